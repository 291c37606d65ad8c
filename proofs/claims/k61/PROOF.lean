import PyProof.Rows.All
import Wide.All
import OpenK.AllK
import Wide.FinOn
import HandS.Base
import KE.KStateDown
import HandS.Defaults
import HandS.Head0
import HandS.Head1
import HandS.Head2
import HandS.HeadEnd
import HandS.HeadHook1
import HandS.HeadHook2
import HandS.HeadHook3
import HandS.HeadHook4
import HandS.Codes
import HandS.List
import HandS.Words
import HandS.ForMost
import HandS.Wide
import HandS.WideBits
import HandS.IsInst
import HandS.StrMore
import HandS.RevRange
import HandS.Zip
import HandS.Conv
import KE.GoesEnum
import KE.GoesMore
import KE.GoesZip
import HandS.NoneIn
import HandS.More
import KE.KDictZip
import KE.KDictItemsList
import HandS.ListItems
import PyProof.Rows.StrOr
import HandS.Deep
import PySem.PyData
import PyProof.Rows.StrFirst
import PySem.Challenge.RW_shiftsums_k61_whole_from_text_to_answer
set_option Elab.async false
set_option linter.all false
set_option maxRecDepth 100000
set_option autoImplicit false
set_option maxHeartbeats 4000000
/-! The text by places. -/
namespace SS
open PySem PySem.Spec PyProof.Rows L2
def top (i : Nat) : Stmt := PySem.Challenge.pw_shiftsums_k61_whole_from_text_to_answer.main.body.getD i (.Pass ⟨0, 0, 0, 0⟩)
def meth (i j : Nat) : Stmt := match top i with
  | .ClassDef _ _ _ b _ _ _ _ _ _ _ => b.getD j (.Pass ⟨0, 0, 0, 0⟩)
  | _ => .Pass ⟨0, 0, 0, 0⟩
end SS
set_option maxHeartbeats 0
/-! The head: what the top leaves, told by facts. -/
namespace SS.HD
open PySem PySem.Spec PyProof.Rows L2
open SX (S)
def dfn (x q : Str) (st : Stmt) : He.DefD := ⟨(x, none), q, q, defArgs st, defBody st, defScope st, [], []⟩
def dfm (c m q : Str) (st : Stmt) : He.DefD := ⟨(c, some m), m, q, defArgs st, defBody st, defScope st, [], []⟩
def fn0 : List He.DefD := [dfn "is_whole" "is_whole" (top 11), dfn "core" "core" (top 12), dfn "shifted" "shifted" (top 13), dfn "units" "units" (top 18), dfn "part_numbers" "part_numbers" (top 19), dfn "deed_numbers" "deed_numbers" (top 20), dfn "number_of_out" "number_of_out" (top 21), dfn "told_numbers" "told_numbers" (top 22), dfn "faults" "faults" (top 23), dfn "web_of" "web_of" (top 24), dfn "numbers" "numbers" (top 25), dfn "out_numbers" "out_numbers" (top 26)]
def fn1 : List He.DefD := [dfn "arrows" "arrows" (top 27), dfn "is_figures" "is_figures" (top 30), dfn "part_text" "part_text" (top 31), dfn "read_part" "read_part" (top 32), dfn "deed_of_texts" "deed_of" (top 33), dfn "read_out" "read_out" (top 35), dfn "deed_line" "deed_line" (top 36), dfn "out_line" "out_line" (top 37), dfn "shown" "shown" (top 38), dfn "read_ins" "read_ins" (top 39), dfn "read_deed" "read_deed" (top 40), dfn "read_last" "read_last" (top 41)]
def fn2 : List He.DefD := [dfn "read" "read" (top 42), dfn "turned_sign" "turned_sign" (top 61), dfn "lifted" "lifted" (top 62), dfn "signed" "signed" (top 65), dfn "run" "run" (top 80), dfn "run_outs" "run_outs" (top 81), dfn "used" "used" (top 89), dfn "pruned" "pruned" (top 90), dfn "form" "form" (top 91), dfn "bare" "bare" (top 92), dfn "downs" "downs" (top 94), dfn "turned" "turned" (top 95)]
def fn3 : List He.DefD := [dfn "wrapped" "wrapped" (top 97), dfn "shifted_in" "shifted_in" (top 98), dfn "run_in" "run_in" (top 99), dfn "outs_in" "outs_in" (top 100), dfn "part_sure" "part_sure" (top 101), dfn "sure" "sure" (top 102), dfn "need" "need" (top 103), dfn "ends" "ends" (top 104), dfn "width_for" "width_for" (top 105), dfn "fits" "fits" (top 106), dfn "range_in" "range_in" (top 107), dfn "is_name" "is_name" (top 113)]
def fn4 : List He.DefD := [dfn "read_number" "read_number" (top 114), dfn "read_word" "read_word" (top 115), dfn "kinds_of" "kinds_of" (top 116), dfn "list_text" "list_text" (top 117), dfn "_law_feed" "_law_feed" (top 122), dfn "_law_take" "_law_take" (top 123), dfn "_law_low" "_law_low" (top 124), dfn "_law_moved" "_law_moved" (top 125), dfn "_law_shift" "_law_shift" (top 126), dfn "_law_names" "_law_names" (top 127), dfn "_law_part" "_law_part" (top 128), dfn "_law_lines" "_law_lines" (top 129)]
def fn5 : List He.DefD := [dfn "_law_values" "_law_values" (top 130), dfn "_law_sums" "_law_sums" (top 131), dfn "_law_lies" "_law_lies" (top 132), dfn "_law_told" "_law_told" (top 133), dfn "_law_wide" "_law_wide" (top 134), dfn "_law_at_desk" "_law_at_desk" (top 135), dfn "_law_turned" "_law_turned" (top 136), dfn "law" "law" (top 137), dfm "Builder" "__init__" "Builder.__init__" (meth 63 0), dfm "Builder" "many" "Builder.many" (meth 63 1), dfm "Builder" "put" "Builder.put" (meth 63 2), dfm "Builder" "summed" "Builder.summed" (meth 63 3)]
def fn6 : List He.DefD := [dfm "Builder" "chained" "Builder.chained" (meth 63 4), dfm "Builder" "web" "Builder.web" (meth 63 6), dfm "Desk" "__init__" "Desk.__init__" (meth 120 0), dfm "Desk" "say" "Desk.say" (meth 120 1), dfm "Desk" "taken" "Desk.taken" (meth 120 2), dfm "Desk" "made" "Desk.made" (meth 120 3), dfm "Desk" "longer" "Desk.longer" (meth 120 4), dfm "Desk" "asked" "Desk.asked" (meth 120 6)]
def fn : List He.DefD := fn0 ++ (fn1 ++ (fn2 ++ (fn3 ++ (fn4 ++ (fn5 ++ (fn6))))))
def fa0 : List He.Fa := [.glo "is_whole", .glo "core", .glo "shifted", .glo "units", .glo "part_numbers", .glo "deed_numbers", .glo "number_of_out", .glo "told_numbers", .glo "faults", .glo "web_of", .glo "numbers", .glo "out_numbers"]
def fa1 : List He.Fa := [.glo "arrows", .glo "is_figures", .glo "part_text", .glo "read_part", .glo "deed_of_texts", .glo "read_out", .glo "deed_line", .glo "out_line", .glo "shown", .glo "read_ins", .glo "read_deed", .glo "read_last"]
def fa2 : List He.Fa := [.glo "read", .glo "turned_sign", .glo "lifted", .glo "signed", .glo "run", .glo "run_outs", .glo "used", .glo "pruned", .glo "form", .glo "bare", .glo "downs", .glo "turned"]
def fa3 : List He.Fa := [.glo "wrapped", .glo "shifted_in", .glo "run_in", .glo "outs_in", .glo "part_sure", .glo "sure", .glo "need", .glo "ends", .glo "width_for", .glo "fits", .glo "range_in", .glo "is_name"]
def fa4 : List He.Fa := [.glo "read_number", .glo "read_word", .glo "kinds_of", .glo "list_text", .glo "_law_feed", .glo "_law_take", .glo "_law_low", .glo "_law_moved", .glo "_law_shift", .glo "_law_names", .glo "_law_part", .glo "_law_lines"]
def fa5 : List He.Fa := [.glo "_law_values", .glo "_law_sums", .glo "_law_lies", .glo "_law_told", .glo "_law_wide", .glo "_law_at_desk", .glo "_law_turned", .glo "law", .free "len", .free "abs", .free "max", .free "min"]
def fa6 : List He.Fa := [.free "int", .free "str", .free "bool", .free "sum", .free "any", .free "all", .free "list", .free "tuple", .free "isinstance", .free "range", .free "reversed", .free "enumerate"]
def fa7 : List He.Fa := [.free "zip", .int "FAR_SHIFT" 4000, .int "MOST_INS" 12, .int "MOST_OUTS" 12, .str "FIGURES" "0123456789", .str "LETTERS" "abcdefghijklmnopqrstuvwxyz", .cls "Builder", .mkr "Builder", .glo "Builder", .cls "Desk", .mkr "Desk", .glo "Desk"]
def fa8 : List He.Fa := [.glo "NOUGHT", .glo "ROWS", .glo "BOUNDS", .noat "Builder" "ins", .noat "Builder" "deeds", .noat "Desk" "webs", .meth "Builder" "many", .meth "Builder" "put", .meth "Builder" "summed", .meth "Builder" "chained", .meth "Builder" "web", .meth "Desk" "say"]
def fa9 : List He.Fa := [.meth "Desk" "taken", .meth "Desk" "made", .meth "Desk" "longer", .meth "Desk" "asked"]
def fa : List He.Fa := fa0 ++ (fa1 ++ (fa2 ++ (fa3 ++ (fa4 ++ (fa5 ++ (fa6 ++ (fa7 ++ (fa8 ++ (fa9)))))))))
def rowKeys : List Str := ["web", "deed", "out", "show", "numbers", "run", "within", "range", "depth", "deeds", "signs", "row", "deep", "shared", "fewest", "prune", "bare", "turn", "behind", "beside", "both"]
def boundKeys : List Str := ["I", "W", "T", "M", "K"]
def ts : List He.Tab := [(fun K => He.ga K "ROWS", rowKeys), (fun K => He.ga K "BOUNDS", boundKeys)]
/-- the statics tell no limit of figures -/
def strKeyB (e : DictEntry) : Bool := match e.key with
  | .str _ _ => true
  | _ => false
def ndB (K : PySem.W.Frag) : Bool := match K.lookup cStatics with
  | some ⟨_, _, .dict es _, _⟩ => es.toList.all strKeyB && (es.toList.find? (·.key.isStr "sys.int_max_str_digits")).isNone
  | _ => false
/-- a tuple that stands for good -/
def tupAt (K : PySem.W.Frag) (a : Addr) (vs : List V) : Bool := match K.lookup a with
  | some ⟨.type c, _, .seq its _, _⟩ => decide (c = "tuple") && (decide (its.size ≤ sizeLine) && He.relAll vs its.toList)
  | _ => false
def rowAt (K : PySem.W.Frag) (x z : Str) (vs : List V) : Bool := match PySem.W.nsIn K (He.ga K x) z with
  | some (some (.ref a)) => tupAt K a vs
  | _ => false
def ex (K : PySem.W.Frag) : Bool := ndB K && (tupAt K (He.ga K "NOUGHT") [.int 0, .int 0, .int 0] &&
  (rowAt K "ROWS" (S [119, 101, 98]) [.str (S [78, 73]), .int 0] && (rowAt K "ROWS" (S [100, 101, 101, 100]) [.str (S [72, 80, 79, 80]), .int 0] &&
  (rowAt K "ROWS" (S [111, 117, 116]) [.str (S [72, 83]), .int 0] && (rowAt K "ROWS" (S [115, 104, 111, 119]) [.str (S [72]), .int 0] &&
  (rowAt K "ROWS" (S [114, 117, 110]) [.str (S [72, 88]), .int 1000000] && (rowAt K "ROWS" (S [119, 105, 116, 104, 105, 110]) [.str (S [72, 87, 88]), .int 1000000] &&
  (rowAt K "ROWS" (S [114, 97, 110, 103, 101]) [.str (S [72, 87]), .int 0] && (rowAt K "BOUNDS" (S [73]) [.int 1, .int 12] && (rowAt K "BOUNDS" (S [87]) [.int 1, .int 3000] &&
  He.eqO (PySem.W.nsIn K (He.ga K "BOUNDS") (S [88])) (some none)))))))))))
/-! the Hook -/
def kids (o : Obj) : List Addr := match o.data with
  | .func fd => He.refV fd.code
  | .cls cd => [cd.ns]
  | .dict es _ => es.toList.flatMap fun e => He.refV e.val
  | _ => []
def lay (g : Addr → Option Obj) (l : List Addr) : List Addr := l.flatMap fun a => match g a with
  | some o => kids o
  | none => []
/-- a list of addresses, reckoned before it is used -/
def frL {α : Type} : List Addr → (List Addr → α) → α
  | [], k => k []
  | a :: r, k => HandSHeadRun.frNat a fun a => frL r fun r => k (a :: r)
theorem frL_eq {α : Type} : ∀ (l : List Addr) (k : List Addr → α), frL l k = k l
  | [], k => rfl
  | a :: r, k => by
    unfold frL
    rw [HandSHeadRun.frNat_eq, frL_eq r]
def frK {α : Type} (g : Addr → Option Obj) : List Addr → (PySem.W.Frag → α) → α
  | [], k => k []
  | a :: r, k => match g a with
    | some o => frK g r fun K => k ((a, o) :: K)
    | none => frK g r k
theorem frK_eq {α : Type} (g : Addr → Option Obj) : ∀ (l : List Addr) (k : PySem.W.Frag → α), frK g l k = k (He.frG g l)
  | [], k => rfl
  | a :: r, k => by
    have e : He.frG g (a :: r) = match g a with
      | some o => (a, o) :: He.frG g r
      | none => He.frG g r := by
      unfold He.frG
      rw [List.filterMap_cons]
      cases g a <;> rfl
    rw [e]
    unfold frK
    cases g a with
    | none => exact frK_eq g r k
    | some o => exact frK_eq g r _
abbrev AlS : Type := He.AlT × Bool
def lk (K : PySem.W.Frag) : AlS := (He.obsT fa fn ts K, ex K)
def seeS (g : Addr → Option Obj) : AlS := frL (lay g [mainGlobals]) fun l1 => frL (lay g l1) fun l2 => frL (lay g l2) fun l3 => frL (lay g l3) fun l4 =>
  frL (mainGlobals :: cStatics :: (l1 ++ (l2 ++ (l3 ++ l4)))) fun as => frK g as lk
def asS (g : Addr → Option Obj) : List Addr := mainGlobals :: cStatics :: (lay g [mainGlobals] ++ (lay g (lay g [mainGlobals]) ++ (lay g (lay g (lay g [mainGlobals])) ++ lay g (lay g (lay g (lay g [mainGlobals]))))))
theorem seeS_eq (g : Addr → Option Obj) : seeS g = lk (He.frG g (asS g)) := by
  unfold seeS
  rw [frL_eq, frL_eq, frL_eq, frL_eq, frL_eq, frK_eq]; rfl
def valS (w : World) : AlS := (He.valT fn ts w, true)
def hk : PySem.W.Hook where
  α := AlS
  obs := fun s => lk (He.frG s.heap.get? (asS s.heap.get?))
  val := fun w => valS w
  says := fun w h => ∃ K : PySem.W.Frag, K.In h ∧ lk K = valS w
  of := fun _ _ e => ⟨_, He.frG_in, e⟩
  keeps := fun _ _ _ ⟨K, hK, c⟩ k => ⟨K, PySem.W.Frag.In.keeps hK k, c⟩
abbrev R : PySem.W.OpenRow := PySem.W.OpenLaw.row PySem.Challenge.rw_shiftsums_k61_whole_from_text_to_answer
abbrev qv : Program := PySem.W.view R.prog [137]
def ob (s : PySem.W.SharedT) : AlS := seeS (HandSHeadRun.getT s)
theorem ob_eq (s : PySem.W.SharedT) : ob s = hk.obs s.abs := by
  have e : HandSHeadRun.getT s = s.abs.heap.get? := funext (HandSHeadRun.getT_eq s)
  unfold ob
  rw [seeS_eq, e]; rfl
def names0 : List PySem.Str := (["ShiftError", "NoWeb", "Down", "NoText", "NoJoin", "TooMany", "NoRow", "NoName", "NoWord", "is_whole", "core", "shifted"] : List PySem.Str)
def names1 : List PySem.Str := (["MOST_INS", "MOST_OUTS", "FAR_SHIFT", "units", "part_numbers", "deed_numbers", "number_of_out", "told_numbers", "faults", "web_of", "numbers", "out_numbers"] : List PySem.Str)
def names2 : List PySem.Str := (["arrows", "FIGURES", "is_figures", "part_text", "read_part", "deed_of", "deed_of_texts", "read_out", "deed_line", "out_line", "shown", "read_ins"] : List PySem.Str)
def names3 : List PySem.Str := (["read_deed", "read_last", "read", "MOST_TOP", "MOST_DEEDS", "LESS_TOP", "LESS_DEEDS", "refuse_far", "made_of_two", "made", "wanted", "longer"] : List PySem.Str)
def names4 : List PySem.Str := (["deed_of_fewest", "web_of_cores", "order_to", "fewest", "NOUGHT", "turned_sign", "lifted", "Builder", "signed", "laid", "behind", "moved"] : List PySem.Str)
def names5 : List PySem.Str := (["together", "beside", "both", "signs", "powers", "chained", "by_signs", "deep", "run", "run_outs", "depths", "depth"] : List PySem.Str)
def names6 : List PySem.Str := (["near", "thing_for", "shared", "used", "pruned", "form", "bare", "downs", "turned", "wrapped", "shifted_in", "run_in"] : List PySem.Str)
def names7 : List PySem.Str := (["outs_in", "part_sure", "sure", "need", "ends", "width_for", "fits", "range_in", "LETTERS", "MANY", "ROWS", "BOUNDS"] : List PySem.Str)
def names8 : List PySem.Str := (["is_name", "read_number", "read_word", "kinds_of", "list_text", "numbers_text", "signs_text", "Desk", "_law_feed", "_law_take", "_law_low", "_law_moved"] : List PySem.Str)
def names9 : List PySem.Str := (["_law_shift", "_law_names", "_law_part", "_law_lines", "_law_values", "_law_sums", "_law_lies", "_law_told", "_law_wide", "_law_at_desk", "_law_turned"] : List PySem.Str)
def names : List PySem.Str := names0 ++ names1 ++ names2 ++ names3 ++ names4 ++ names5 ++ names6 ++ names7 ++ names8 ++ names9
theorem run0 (w : World) : HandSHeadRun.RunEq R qv hk ob 8000 names (w.withFollow "special-get-raises" false) := by
  intro os
  kernel_rfl
theorem run1 (w : World) : HandSHeadRun.RunEq R qv hk ob 8000 names (w.withFollow "special-get-raises" true) := by
  intro os
  kernel_rfl
theorem run (w : World) : HandSHeadRun.RunEq R qv hk ob 8000 names w := PySem.W.byRow2 "special-get-raises" (P := fun w => HandSHeadRun.RunEq R qv hk ob 8000 names w) run0 run1 w
/-! the rest that the law's end asks of the text -/
section
open PySem.W PySem.Calls
abbrev dL : DefRec := HandSHeadRun.topDef R.prog 137
theorem e_open : opening R.prog = plainProg R.prog.main.scope.names := by kernel_rfl
theorem e_fence : ∀ s, fenceModules? R.prog s = some s := fun s => by kernel_rfl
theorem e_def : defOf qv R.name = some (dL, []) := by kernel_rfl
theorem e_the : R.prog.theDef R.name = some (dL.params, dL.body, dL.scope) := by kernel_rfl
theorem e_kw : kwWritten? dL.params.kwonlyargs dL.params.kw_defaults = some [] := by kernel_rfl
theorem e_ok : (chainsOk qv && opensWell R.prog && (frees R.toRowW && R.within.isEmpty)) = true := by decide +kernel
theorem e_law (F : PySem.Challenge.rw_shiftsums_k61_whole_from_text_to_answer.row.wellSaid = true → PySem.Challenge.rw_shiftsums_k61_whole_from_text_to_answer.row.Holds) : PySem.Challenge.rw_shiftsums_k61_whole_from_text_to_answer.Holds := by
  w_on; o_law
  exact F (by assumption)
end
end SS.HD
set_option maxHeartbeats 4000000
/-! The data layer, one: values as pure data (PyData), an expression's value by data alone. -/
namespace SS
open PySem PySem.Spec PyProof.Rows L2

/-! ### what a value is worth -/
mutual
inductive Rep (K : PySem.W.Frag) (F : Hp) : V → PyData → Prop
  | non : Rep K F .non .none
  | bl (b : Bool) : Rep K F (.bl b) (.bool b)
  | int (i : Int) : Rep K F (.int i) (.int i)
  | str (x : Str) : Rep K F (.str x) (.str x)
  | lst {a : Addr} {vs : List V} {ds : List PyData} : F a = some (.lst vs) → Reps K F vs ds → Rep K F (.ref a) (.list ds)
  | tup {a : Addr} {vs : List V} {ds : List PyData} : SqT K F a vs → Reps K F vs ds → Rep K F (.ref a) (.tuple ds)
  /-- a tuple that was made (for the keys of dicts), told by a mark -/
  | stup {a : Addr} {vs : List V} {ds : List PyData} : F a = some (.tup vs) → Reps K F vs ds → Rep K F (.ref a) (.dict [(.tuple ds, .none)])
  /-- a list that is only read, as it may be handed in, told by a mark -/
  | slst {a : Addr} {vs : List V} {ds : List PyData} : SqL K F a vs → Reps K F vs ds → Rep K F (.ref a) (.dict [(.list ds, .none)])
inductive Reps (K : PySem.W.Frag) (F : Hp) : List V → List PyData → Prop
  | nil : Reps K F [] []
  | cons {v : V} {vs : List V} {d : PyData} {ds : List PyData} : Rep K F v d → Reps K F vs ds → Reps K F (v :: vs) (d :: ds)
end
theorem sqL_mono {K : PySem.W.Frag} {F F' : Hp} {a : Addr} {xs : List V} (e : Same F F') (h : SqL K F a xs) : SqL K F' a xs := by
  rcases h with (h | ⟨o, h⟩) | h
  · exact .inl (.inl (e _ _ h))
  · exact .inl (.inr ⟨o, e _ _ h⟩)
  · exact .inr h
theorem sqT_mono {K : PySem.W.Frag} {F F' : Hp} {a : Addr} {xs : List V} (e : Same F F') (h : SqT K F a xs) : SqT K F' a xs := by
  rcases h with (h | ⟨o, h⟩) | h
  · exact .inl (.inl (e _ _ h))
  · exact .inl (.inr ⟨o, e _ _ h⟩)
  · exact .inr h
mutual
theorem Rep.mono {K : PySem.W.Frag} {F F' : Hp} (e : Same F F') : ∀ {v : V} {d : PyData}, Rep K F v d → Rep K F' v d
  | _, _, .non => .non
  | _, _, .bl b => .bl b
  | _, _, .int b => .int b
  | _, _, .str b => .str b
  | _, _, .lst h r => .lst (e _ _ h) (Reps.mono e r)
  | _, _, .tup h r => .tup (sqT_mono e h) (Reps.mono e r)
  | _, _, .stup h r => .stup (e _ _ h) (Reps.mono e r)
  | _, _, .slst h r => .slst (sqL_mono e h) (Reps.mono e r)
theorem Reps.mono {K : PySem.W.Frag} {F F' : Hp} (e : Same F F') : ∀ {vs : List V} {ds : List PyData}, Reps K F vs ds → Reps K F' vs ds
  | _, _, .nil => .nil
  | _, _, .cons r t => .cons (Rep.mono e r) (Reps.mono e t)
end
mutual
theorem Rep.dp {K : PySem.W.Frag} {F : Hp} : ∀ {v : V} {d : PyData}, Rep K F v d → d.canLay0 = true → Dp K F v d
  | _, _, .non, _ => .non
  | _, _, .bl b, _ => .bl b
  | _, _, .int b, _ => .int b
  | _, _, .str b, _ => .str b
  | _, _, .lst h r, e => .lst (SqL.of h) (Reps.dp r (by simpa [PyData.canLay0] using e))
  | _, _, .tup h r, e => .tup h (Reps.dp r (by simpa [PyData.canLay0] using e))
  | _, _, .stup h r, e => by simp [PyData.canLay0] at e
  | _, _, .slst h r, e => by simp [PyData.canLay0] at e
theorem Reps.dp {K : PySem.W.Frag} {F : Hp} : ∀ {vs : List V} {ds : List PyData}, Reps K F vs ds → PyData.canLayAll0 ds = true → DpAll K F vs ds
  | _, _, .nil, _ => .nil
  | _, _, .cons r t, e => by
    have e' := e
    simp only [PyData.canLayAll0, Bool.and_eq_true] at e'
    exact .cons (Rep.dp r e'.1) (Reps.dp t e'.2)
end
section
variable {K : PySem.W.Frag} {F F' : Hp} {v : V} {vs ws : List V} {d : PyData} {ds es : List PyData}
theorem Reps.len (h : Reps K F vs ds) : vs.length = ds.length := by
  induction ds generalizing vs with
  | nil => cases h; rfl
  | cons d ds ih => cases h with | cons r t => simp [ih t]
theorem Reps.get {i : Nat} (h : Reps K F vs ds) (e : ds[i]? = some d) : ∃ v, vs[i]? = some v ∧ Rep K F v d := by
  induction ds generalizing vs i with
  | nil => simp at e
  | cons d0 ds ih =>
    cases h with
    | cons r t =>
      cases i with
      | zero => simp at e; subst e; exact ⟨_, rfl, r⟩
      | succ i => simpa using ih t (by simpa using e)
theorem Reps.getV {i : Nat} (h : Reps K F vs ds) (e : vs[i]? = some v) : ∃ d, ds[i]? = some d ∧ Rep K F v d := by
  induction ds generalizing vs i with
  | nil => cases h; simp at e
  | cons d0 ds ih =>
    cases h with
    | cons r t =>
      cases i with
      | zero => simp at e; subst e; exact ⟨_, rfl, r⟩
      | succ i => simpa using ih t (by simpa using e)
theorem Reps.append (h : Reps K F vs ds) (h' : Reps K F ws es) : Reps K F (vs ++ ws) (ds ++ es) := by
  induction ds generalizing vs with
  | nil => cases h; simpa using h'
  | cons d0 ds ih => cases h with | cons r t => exact .cons r (ih t)
theorem Reps.take (n : Nat) (h : Reps K F vs ds) : Reps K F (vs.take n) (ds.take n) := by
  induction ds generalizing vs n with
  | nil => cases h; simp; exact .nil
  | cons d0 ds ih => cases h with | cons r t => cases n with
    | zero => exact .nil
    | succ n => exact .cons r (ih n t)
theorem Reps.drop (n : Nat) (h : Reps K F vs ds) : Reps K F (vs.drop n) (ds.drop n) := by
  induction ds generalizing vs n with
  | nil => cases h; simp; exact .nil
  | cons d0 ds ih => cases h with | cons r t => cases n with
    | zero => exact .cons r t
    | succ n => exact ih n t
theorem Reps.set (n : Nat) (r : Rep K F v d) (h : Reps K F vs ds) : Reps K F (vs.set n v) (ds.set n d) := by
  induction ds generalizing vs n with
  | nil => cases h; simp; exact .nil
  | cons d0 ds ih => cases h with | cons r' t => cases n with
    | zero => exact .cons r t
    | succ n => exact .cons r' (ih n t)
theorem Reps.ints {ns : List Int} : Reps K F (ns.map V.int) (ns.map PyData.int) := by
  induction ns with
  | nil => exact .nil
  | cons n ns ih => exact .cons (.int n) ih
theorem Reps.ints_inv {ns : List Int} (h : Reps K F vs (ns.map PyData.int)) : vs = ns.map V.int := by
  induction ns generalizing vs with
  | nil => cases h; rfl
  | cons n ns ih => cases h with | cons r t => cases r; rw [ih t]; rfl
theorem Reps.bls_inv {ns : List Bool} (h : Reps K F vs (ns.map PyData.bool)) : vs = ns.map V.bl := by
  induction ns generalizing vs with
  | nil => cases h; rfl
  | cons n ns ih => cases h with | cons r t => cases r; rw [ih t]; rfl
theorem Reps.strs_inv {ns : List Str} (h : Reps K F vs (ns.map PyData.str)) : vs = ns.map V.str := by
  induction ns generalizing vs with
  | nil => cases h; rfl
  | cons n ns ih => cases h with | cons r t => cases r; rw [ih t]; rfl
theorem Reps.strs {ns : List Str} : Reps K F (ns.map V.str) (ns.map PyData.str) := by
  induction ns with
  | nil => exact .nil
  | cons n ns ih => exact .cons (.str n) ih
end

/-! ### the heap grows: F what is known for good, H all -/
structure Xt (F H F' H' : Hp) : Prop where
  f : Same F F'
  h : Same H H'
  s : Same F' H'
  n : ∀ a o, F' a = some o → F a = some o ∨ H a = none
section
variable {F H F1 H1 F2 H2 : Hp} {p : Addr} {o : HO}
theorem Xt.refl (s : Same F H) : Xt F H F H := ⟨.refl _, .refl _, s, fun _ _ h => .inl h⟩
theorem Xt.trans (a : Xt F H F1 H1) (b : Xt F1 H1 F2 H2) : Xt F H F2 H2 :=
  ⟨a.f.trans b.f, a.h.trans b.h, b.s, fun c o e => by
    rcases b.n c o e with q | q
    · exact a.n c o q
    · exact .inr (a.h.free q)⟩
theorem same_new {H : Hp} {p : Addr} {o : HO} (h : H p = none) : Same H (upd H p o) := fun b x e => by
  rw [upd_ne (ne_of_none e h)]
  exact e
theorem Xt.new (s : Same F H) (h : H p = none) : Xt F H (upd F p o) (upd H p o) :=
  ⟨same_new (s.free h), same_new h, fun b x e => by
    by_cases hb : b = p
    · subst hb; rw [upd_same] at e ⊢; exact e
    · rw [upd_ne hb] at e ⊢; exact s _ _ e,
   fun b x e => by
    by_cases hb : b = p
    · subst hb; exact .inr h
    · rw [upd_ne hb] at e; exact .inl e⟩
end

/-! ### slots -/
structure PSl (K : PySem.W.Frag) (F : Hp) (δ : List (Option PyData)) (σ : L2.St) : Prop where
  len : δ.length = σ.length
  get : ∀ (i : Nat) (d : PyData), δ[i]? = some (some d) → ∃ v, σ[i]? = some (some v) ∧ Rep K F v d
section
variable {K : PySem.W.Frag} {F F' : Hp} {δ : List (Option PyData)} {σ : L2.St} {v : V} {d : PyData}
theorem PSl.mono (e : Same F F') (h : PSl K F δ σ) : PSl K F' δ σ := ⟨h.len, fun i d q => let ⟨v, a, b⟩ := h.get i d q; ⟨v, a, b.mono e⟩⟩
theorem PSl.set (h : PSl K F δ σ) (i : Nat) (r : Rep K F v d) : PSl K F (δ.set i (some d)) (σ.set i (some v)) := by
  refine ⟨by simpa using h.len, fun j e q => ?_⟩
  by_cases hj : i = j
  · subst hj
    by_cases hl : i < δ.length
    · rw [List.getElem?_set_self hl] at q
      cases q
      exact ⟨v, List.getElem?_set_self (by rw [← h.len]; exact hl), r⟩
    · rw [List.getElem?_eq_none (by simpa using hl)] at q; cases q
  · rw [List.getElem?_set_ne hj] at q
    obtain ⟨u, a, b⟩ := h.get j e q
    exact ⟨u, by rw [List.getElem?_set_ne hj]; exact a, b⟩
theorem PSl.unset (h : PSl K F δ σ) (i : Nat) {o : Option V} : PSl K F (δ.set i none) (σ.set i o) := by
  refine ⟨by simpa using h.len, fun j e q => ?_⟩
  by_cases hj : i = j
  · subst hj
    by_cases hl : i < δ.length
    · rw [List.getElem?_set_self hl] at q; cases q
    · rw [List.getElem?_eq_none (by simpa using hl)] at q; cases q
  · rw [List.getElem?_set_ne hj] at q
    obtain ⟨u, a, b⟩ := h.get j e q
    exact ⟨u, by rw [List.getElem?_set_ne hj]; exact a, b⟩
def wipeD (δ : List (Option PyData)) : List Nat → List (Option PyData)
  | [] => δ
  | v :: vs => (wipeD δ vs).set v none
theorem PSl.wipe (h : PSl K F δ σ) : ∀ vs : List Nat, PSl K F (wipeD δ vs) (L2.wipe σ vs)
  | [] => h
  | v :: vs => by unfold wipeD L2.wipe; exact (PSl.wipe h vs).unset v
end

/-! ### the weakest readings -/
/-- a wall: nothing looks behind it by itself -/
structure Hd (p : Prop) : Prop where
  un : p
def wE (X : Cx) (e : Expr) : TE := fun σ H Q => Hd (∀ pins s, Inv X pins σ H s → wpAny (model X.prog X.w) X.A (eval e X.env) (EP X pins σ Q) X.xe s)
def wT (X : Cx) (e : Expr) : TT := fun σ H Q => Hd (∀ pins s, Inv X pins σ H s → wpAny (model X.prog X.w) X.A (isTrue e X.env (eval e X.env)) (TP X pins σ Q) X.xe s)
def wW (X : Cx) (e : Expr) : TT := fun σ H Q => Hd (∀ whole pins s, Inv X pins σ H s → wpAny (model X.prog X.w) X.A (isTrue e X.env whole) (TP X pins σ Q) X.xe s)
def wA (X : Cx) (es : List Expr) : TA := fun σ H Q => Hd (∀ pos pins s, Inv X pins σ H s → wpAny (model X.prog X.w) X.A (spliced (backTo pos (starEach es X.env))) (AP X pins σ Q) X.xe s)
def wSs (X : Cx) (st : List Stmt) : TS := fun D σ H => Hd (∀ pins s, Inv X pins σ H s → wpAny (model X.prog X.w) X.A (execs st X.env) (SP X pins D) X.xe s)
section
variable {X : Cx} {e : Expr} {es : List Expr} {st : List Stmt} {σ : L2.St} {H : Hp}
theorem pe_star : PE X e (wE X e) := ⟨fun pins s σ H Q I h => h.un pins s I⟩
theorem pt_star : PT X e (wT X e) := ⟨fun pins s σ H Q I h => h.un pins s I⟩
theorem pw_star : PW X e (wW X e) := ⟨fun wh pins s σ H Q I h => h.un wh pins s I⟩
theorem pa_star : PA X es (wA X es) := ⟨fun pos pins s σ H Q I h => h.un pos pins s I⟩
theorem pss_star : PSs X st (wSs X st) := ⟨fun pins s σ H D I h => h.un pins s I⟩
theorem wE_of {t : TE} {Q : VK} (h : PE X e t) (q : t σ H Q) : wE X e σ H Q := ⟨fun pins s I => h.run pins s σ H Q I q⟩
theorem wT_of {t : TT} {Q : Bool → Hp → Prop} (h : PT X e t) (q : t σ H Q) : wT X e σ H Q := ⟨fun pins s I => h.run pins s σ H Q I q⟩
theorem wW_of {t : TT} {Q : Bool → Hp → Prop} (h : PW X e t) (q : t σ H Q) : wW X e σ H Q := ⟨fun wh pins s I => h.run wh pins s σ H Q I q⟩
theorem wA_of {t : TA} {Q : List V → Hp → Prop} (h : PA X es t) (q : t σ H Q) : wA X es σ H Q := ⟨fun pos pins s I => h.run pos pins s σ H Q I q⟩
theorem wSs_of {t : TS} {D : Ends} (h : PSs X st t) (q : t D σ H) : wSs X st D σ H := ⟨fun pins s I => h.run pins s σ H D I q⟩
theorem wE_mono {Q Q' : VK} (h : wE X e σ H Q) (k : ∀ v H', Q v H' → Q' v H') : wE X e σ H Q' := ⟨fun pins s I => thn (h.un pins s I) fun u s' ⟨v, H', I', r, q⟩ => ⟨v, H', I', r, k v H' q⟩⟩
theorem wT_mono {Q Q' : Bool → Hp → Prop} (h : wT X e σ H Q) (k : ∀ v H', Q v H' → Q' v H') : wT X e σ H Q' := ⟨fun pins s I => thn (h.un pins s I) fun u s' ⟨H', I', q⟩ => ⟨H', I', k u H' q⟩⟩
theorem wA_mono {Q Q' : List V → Hp → Prop} (h : wA X es σ H Q) (k : ∀ v H', Q v H' → Q' v H') : wA X es σ H Q' := ⟨fun pos pins s I => thn (h.un pos pins s I) fun u s' ⟨v, H', I', r, q⟩ => ⟨v, H', I', r, k v H' q⟩⟩
end
end SS
set_option maxHeartbeats 4000000
/-! The data layer, two: expressions, tests, arguments by data. -/
namespace SS
open PySem PySem.Spec PyProof.Rows L2

abbrev Dl := List (Option PyData)
def DP (X : Cx) (e : Expr) (δ : Dl) (d : PyData) : Prop := ∀ (F : Hp) (σ : L2.St) (H : Hp), Same F H → PSl X.K F δ σ → ∀ Q : VK, (∀ v F' H', Xt F H F' H' → Rep X.K F' v d → Q v H') → wE X e σ H Q
def DT (X : Cx) (e : Expr) (δ : Dl) (b : Bool) : Prop := ∀ (F : Hp) (σ : L2.St) (H : Hp), Same F H → PSl X.K F δ σ → ∀ Q : Bool → Hp → Prop, (∀ F' H', Xt F H F' H' → Q b H') → wT X e σ H Q
def DW (X : Cx) (e : Expr) (δ : Dl) (b : Bool) : Prop := ∀ (F : Hp) (σ : L2.St) (H : Hp), Same F H → PSl X.K F δ σ → ∀ Q : Bool → Hp → Prop, (∀ F' H', Xt F H F' H' → Q b H') → wW X e σ H Q
def DA (X : Cx) (es : List Expr) (δ : Dl) (ds : List PyData) : Prop := ∀ (F : Hp) (σ : L2.St) (H : Hp), Same F H → PSl X.K F δ σ → ∀ Q : List V → Hp → Prop, (∀ vs F' H', Xt F H F' H' → Reps X.K F' vs ds → Q vs H') → wA X es σ H Q
/-- operations on values -/
def RD (K : PySem.W.Frag) (r : R2) (d1 d2 d : PyData) : Prop := ∀ (x y : V) (F H : Hp), Same F H → Rep K F x d1 → Rep K F y d2 → ∀ Q : VK, (∀ v F' H', Xt F H F' H' → Rep K F' v d → Q v H') → r x y H Q
def RU (K : PySem.W.Frag) (r : V → Hp → VK → Prop) (d1 d : PyData) : Prop := ∀ (x : V) (F H : Hp), Same F H → Rep K F x d1 → ∀ Q : VK, (∀ v F' H', Xt F H F' H' → Rep K F' v d → Q v H') → r x H Q
def RC (K : PySem.W.Frag) (r : List V → Hp → VK → Prop) (ds : List PyData) (d : PyData) : Prop := ∀ (vs : List V) (F H : Hp), Same F H → Reps K F vs ds → ∀ Q : VK, (∀ v F' H', Xt F H F' H' → Rep K F' v d → Q v H') → r vs H Q
def RM (K : PySem.W.Frag) (r : V → List V → Hp → VK → Prop) (d0 : PyData) (ds : List PyData) (d : PyData) : Prop := ∀ (x : V) (vs : List V) (F H : Hp), Same F H → Rep K F x d0 → Reps K F vs ds → ∀ Q : VK, (∀ v F' H', Xt F H F' H' → Rep K F' v d → Q v H') → r x vs H Q
section
variable {X : Cx} {δ : Dl} {a b c e : Expr} {es : List Expr} {pos : Pos} {d d1 d2 d3 d' : PyData} {ds : List PyData} {r : R2} {i j : Int} {p q : Bool}

theorem DP.is (h : DP X e δ d) (e1 : d = d') : DP X e δ d' := e1 ▸ h
/-- a made tuple as any tuple -/
theorem dp_weak {ds : List PyData} (h : DP X e δ (.dict [(.tuple ds, .none)])) : DP X e δ (.tuple ds) := fun F σ H sm sl Q q => h F σ H sm sl Q fun v F' H' x r => by
  cases r with
  | stup h1 r1 => exact q _ F' H' x (.tup (SqT.of h1) r1)
theorem DT.is (h : DT X e δ p) (e1 : p = q) : DT X e δ q := e1 ▸ h
theorem DA.is {ds' : List PyData} (h : DA X es δ ds) (e1 : ds = ds') : DA X es δ ds' := e1 ▸ h
/-! names and constants -/
theorem dp_var (i : Nat) {x : Str} (hd : δ[i]? = some (some d) := by rfl) (hN : X.N[i]? = some x := by rfl) (hv : Vis X.env.scope x := by first | exact Or.inl rfl | exact Or.inr (Or.inl rfl) | exact Or.inr (Or.inr rfl))
    (h1 : (x == ("__debug__" : Str)) = false := by decide) (h2 : (x == ("__classdict__" : Str)) = false := by decide) : DP X (.Name x pos) δ d := fun F σ H sm sl Q q => by
  obtain ⟨v, e1, r⟩ := sl.get i d hd
  exact wE_of (pe_var hN hv h1 h2) ⟨v, e1, q v F H (.refl sm) r⟩
theorem dp_int {n : Int} {k} : DP X (.Constant (.int n) k pos) δ (.int n) := fun F σ H sm sl Q q => wE_of pe_int (q _ F H (.refl sm) (.int n))
theorem dp_str {n : Str} {k} : DP X (.Constant (.str n) k pos) δ (.str n) := fun F σ H sm sl Q q => wE_of pe_str (q _ F H (.refl sm) (.str n))
theorem dp_bl {n : Bool} {k} : DP X (.Constant (.bool n) k pos) δ (.bool n) := fun F σ H sm sl Q q => wE_of pe_bl (q _ F H (.refl sm) (.bl n))
theorem dp_non {k} : DP X (.Constant .none k pos) δ .none := fun F σ H sm sl Q q => wE_of pe_non (q _ F H (.refl sm) .non)
/-- a constant of the module -/
theorem dp_glob {x : Str} {v : V} {u : Value} (hg : Gl X x) (hm : X.mg x = some u) (r : RelV v u) (hr : ∀ F, Rep X.K F v d) (hd : (x == ("__debug__" : Str)) = false := by decide) : DP X (.Name x pos) δ d :=
  fun F σ H sm sl Q q => wE_of (pe_glob hg hm r hd) (q _ F H (.refl sm) (hr F))

/-! operators -/
theorem dp_bop {op : Operator} (ho : OpR X (binaryOp op) r) (ha : DP X a δ d1) (hb : DP X b δ d2) (hr : RD X.K r d1 d2 d) : DP X (.BinOp a op b pos) δ d := fun F σ H sm sl Q q =>
  wE_of (pe_op ho pe_star pe_star) (ha F σ H sm sl _ fun x F1 H1 x1 rx => hb F1 σ H1 x1.s (sl.mono x1.f) _ fun y F2 H2 x2 ry =>
    hr x y F2 H2 x2.s (rx.mono x2.f) ry Q fun v F3 H3 x3 rv => q v F3 H3 ((x1.trans x2).trans x3) rv)
theorem dp_cmp {op : CmpOp} (ho : OpR X (compareOp op) r) (ha : DP X a δ d1) (hb : DP X b δ d2) (hr : RD X.K r d1 d2 d) (hm : behindInMarks op b = false := by first | exact nomark _ | rfl) : DP X (.Compare a [op] [b] pos) δ d := fun F σ H sm sl Q q =>
  wE_of (pe_cmpR ho pe_star pe_star hm) (ha F σ H sm sl _ fun x F1 H1 x1 rx => hb F1 σ H1 x1.s (sl.mono x1.f) _ fun y F2 H2 x2 ry =>
    hr x y F2 H2 x2.s (rx.mono x2.f) ry Q fun v F3 H3 x3 rv => q v F3 H3 ((x1.trans x2).trans x3) rv)
theorem dt_cmp {op : CmpOp} (ho : OpR X (compareOp op) r) (ha : DP X a δ d1) (hb : DP X b δ d2) (hr : RD X.K r d1 d2 (.bool p)) (hm : behindInMarks op b = false := by first | exact nomark _ | rfl) : DT X (.Compare a [op] [b] pos) δ p := fun F σ H sm sl Q q =>
  wT_of (pt_cmpR ho pe_star pe_star hm) (ha F σ H sm sl _ fun x F1 H1 x1 rx => hb F1 σ H1 x1.s (sl.mono x1.f) _ fun y F2 H2 x2 ry =>
    hr x y F2 H2 x2.s (rx.mono x2.f) ry _ fun v F3 H3 x3 rv => by cases rv; exact ⟨p, rfl, q F3 H3 ((x1.trans x2).trans x3)⟩)
/-- a < b < c -/
theorem dt_chain {op op' : CmpOp} {r' : R2} (ho : OpR X (compareOp op) r) (ho' : OpR X (compareOp op') r') (ha : DP X a δ d1) (hb : DP X b δ d2) (hc : DP X c δ d3) (hr : RD X.K r d1 d2 (.bool p)) (hr' : RD X.K r' d2 d3 (.bool q))
    (hm : lastMarks [op, op'] [b, c] = false := by with_unfolding_all rfl) : DT X (.Compare a [op, op'] [b, c] pos) δ (p && q) := fun F σ H sm sl Q k =>
  wT_of (pt_chain ho ho' pe_star pe_star pe_star hm) (ha F σ H sm sl _ fun x F1 H1 x1 rx => hb F1 σ H1 x1.s (sl.mono x1.f) _ fun y F2 H2 x2 ry =>
    hr x y F2 H2 x2.s (rx.mono x2.f) ry _ fun v F3 H3 x3 rv => by
      cases rv
      refine ⟨p, rfl, ?_⟩
      have xx := (x1.trans x2).trans x3
      cases p with
      | true =>
        refine iteT (hc F3 σ H3 x3.s (sl.mono xx.f) _ fun z F4 H4 x4 rz => hr' y z F4 H4 x4.s (ry.mono (x3.trans x4).f) rz _ fun w F5 H5 x5 rw' => ?_)
        cases rw'
        exact ⟨q, rfl, k F5 H5 ((xx.trans x4).trans x5)⟩
      | false => exact iteF ⟨false, rfl, k F3 H3 xx⟩)
theorem dp_un {op : UnaryOp} {r : V → Hp → VK → Prop} (ho : UnR X (unaryOp op) r) (ha : DP X a δ d1) (hr : RU X.K r d1 d) : DP X (.UnaryOp op a pos) δ d := fun F σ H sm sl Q q =>
  wE_of (pe_un ho pe_star) (ha F σ H sm sl _ fun x F1 H1 x1 rx => hr x F1 H1 x1.s rx Q fun v F3 H3 x3 rv => q v F3 H3 (x1.trans x3) rv)
theorem dp_neg (ha : DP X a δ (.int i)) : DP X (.UnaryOp .USub a pos) δ (.int (-i)) := dp_un un_neg ha fun x F H sm rx Q q => by cases rx; exact ⟨i, rfl, q _ F H (.refl sm) (.int _)⟩
theorem dp_ix (hr : IxR X r) (ha : DP X a δ d1) (hb : DP X b δ d2) (hd : RD X.K r d1 d2 d) (hs : PlainIx b := by exact fun _ _ => rfl) : DP X (.Subscript a b pos) δ d := fun F σ H sm sl Q q =>
  wE_of (pe_ix hr pe_star pe_star hs) (ha F σ H sm sl _ fun x F1 H1 x1 rx => hb F1 σ H1 x1.s (sl.mono x1.f) _ fun y F2 H2 x2 ry =>
    hd x y F2 H2 x2.s (rx.mono x2.f) ry Q fun v F3 H3 x3 rv => q v F3 H3 ((x1.trans x2).trans x3) rv)

/-! what the operations give -/
variable {K : PySem.W.Frag}
theorem rd_II {f : Int → Int → Int} : RD K (rI0 fun i j => .int (f i j)) (.int i) (.int j) (.int (f i j)) := fun x y F H sm rx ry Q q => by cases rx; cases ry; exact ⟨i, j, rfl, rfl, q _ F H (.refl sm) (.int _)⟩
theorem rd_IB {f : Int → Int → Bool} : RD K (rI0 fun i j => .bl (f i j)) (.int i) (.int j) (.bool (f i j)) := fun x y F H sm rx ry Q q => by cases rx; cases ry; exact ⟨i, j, rfl, rfl, q _ F H (.refl sm) (.bl _)⟩
theorem rd_CI {C : Int → Int → Prop} {f : Int → Int → Int} (hc : C i j) : RD K (rI C fun i j => .int (f i j)) (.int i) (.int j) (.int (f i j)) := fun x y F H sm rx ry Q q => by cases rx; cases ry; exact ⟨i, j, rfl, rfl, hc, q _ F H (.refl sm) (.int _)⟩
theorem rd_eqI : RD K rEq (.int i) (.int j) (.bool (decide (i = j))) := fun x y F H sm rx ry Q q => by
  cases rx; cases ry
  refine ⟨rfl, ?_⟩
  have e1 : decide (V.int i = V.int j) = decide (i = j) := by simp
  rw [e1]
  exact q _ F H (.refl sm) (.bl _)
theorem rd_neI : RD K rNe (.int i) (.int j) (.bool (!decide (i = j))) := fun x y F H sm rx ry Q q => by
  cases rx; cases ry
  refine ⟨rfl, ?_⟩
  have e1 : decide (V.int i = V.int j) = decide (i = j) := by simp
  rw [e1]
  exact q _ F H (.refl sm) (.bl _)
theorem rd_eqS {s t : Str} : RD K rEq (.str s) (.str t) (.bool (decide (s = t))) := fun x y F H sm rx ry Q q => by
  cases rx; cases ry
  refine ⟨rfl, ?_⟩
  have e1 : decide (V.str s = V.str t) = decide (s = t) := by simp
  rw [e1]
  exact q _ F H (.refl sm) (.bl _)
theorem rd_neS {s t : Str} : RD K rNe (.str s) (.str t) (.bool (!decide (s = t))) := fun x y F H sm rx ry Q q => by
  cases rx; cases ry
  refine ⟨rfl, ?_⟩
  have e1 : decide (V.str s = V.str t) = decide (s = t) := by simp
  rw [e1]
  exact q _ F H (.refl sm) (.bl _)
theorem rd_neB {s t : Bool} : RD K rNe (.bool s) (.bool t) (.bool (!decide (s = t))) := fun x y F H sm rx ry Q q => by
  cases rx; cases ry
  refine ⟨rfl, ?_⟩
  have e1 : decide (V.bl s = V.bl t) = decide (s = t) := by simp
  rw [e1]
  exact q _ F H (.refl sm) (.bl _)
theorem rd_eqD (h1 : SeqAt.shaped d1 = true) (h2 : SeqAt.shaped d2 = true) : RD K (rEqD K) d1 d2 (.bool (PyData.eqv d1 d2)) := fun x y F H sm rx ry Q q =>
  ⟨d1, d2, (rx.mono sm).dp (SeqAt.canLay_of_shaped h1), (ry.mono sm).dp (SeqAt.canLay_of_shaped h2), h1, h2, q _ F H (.refl sm) (.bl _)⟩
theorem rd_neD (h1 : SeqAt.shaped d1 = true) (h2 : SeqAt.shaped d2 = true) : RD K (rNeD K) d1 d2 (.bool (!PyData.eqv d1 d2)) := fun x y F H sm rx ry Q q =>
  ⟨d1, d2, (rx.mono sm).dp (SeqAt.canLay_of_shaped h1), (ry.mono sm).dp (SeqAt.canLay_of_shaped h2), h1, h2, q _ F H (.refl sm) (.bl _)⟩
def isNon : PyData → Bool
  | .none => true
  | _ => false
theorem rep_isNon {F : Hp} {v : V} (r : Rep K F v d) : decide (v = .non) = isNon d := by cases r <;> simp [isNon]
theorem rd_isN : RD K (fun x y H Q => y = .non ∧ Q (.bl (decide (x = .non))) H) d .none (.bool (isNon d)) := fun x y F H sm rx ry Q q => by
  cases ry
  refine ⟨rfl, ?_⟩
  rw [rep_isNon rx]
  exact q _ F H (.refl sm) (.bl _)
theorem rd_notN : RD K (fun x y H Q => y = .non ∧ Q (.bl (!decide (x = .non))) H) d .none (.bool (!isNon d)) := fun x y F H sm rx ry Q q => by
  cases ry
  refine ⟨rfl, ?_⟩
  rw [rep_isNon rx]
  exact q _ F H (.refl sm) (.bl _)
theorem rd_addS {s t : Str} (h : s.length + t.length ≤ sizeLine) : RD K (fun x y H Q => ∃ i j, x = .str i ∧ y = .str j ∧ i.length + j.length ≤ sizeLine ∧ Q (.str (i ++ j)) H) (.str s) (.str t) (.str (s ++ t)) := fun x y F H sm rx ry Q q => by
  cases rx; cases ry; exact ⟨s, t, rfl, rfl, h, q _ F H (.refl sm) (.str _)⟩
theorem rd_inSign {c : Nat} {z : Str} : RD K (fun x y H Q => ∃ (c : Nat) (z : Str), x = .str ⟨#[c]⟩ ∧ y = .str z ∧ Q (.bl (decide (c ∈ z.cps.toList))) H) (.str ⟨#[c]⟩) (.str z) (.bool (decide (c ∈ z.cps.toList))) := fun x y F H sm rx ry Q q => by
  cases rx; cases ry; exact ⟨c, z, rfl, rfl, q _ F H (.refl sm) (.bl _)⟩
theorem atI_reps {F : Hp} {vs : List V} {ds : List PyData} {i : Int} (h : Reps K F vs ds) (e : atI ds i = some d) : ∃ v, atI vs i = some v ∧ Rep K F v d := by
  unfold atI at e ⊢
  rw [h.len]
  cases q : ixN ds.length i with
  | none => rw [q] at e; cases e
  | some j =>
    rw [q] at e
    obtain ⟨v, e2, r⟩ := h.get (i := j) (d := d) e
    exact ⟨v, e2, r⟩
theorem rd_ixL (e : atI ds i = some d) : RD K (rIxL K) (.list ds) (.int i) d := fun x y F H sm rx ry Q q => by
  cases rx with
  | lst h r =>
    cases ry
    obtain ⟨v, e2, rv⟩ := atI_reps r e
    exact ⟨_, _, i, v, rfl, rfl, SqL.of (sm _ _ h), e2, q v F H (.refl sm) rv⟩
theorem rd_ixT (e : atI ds i = some d) : RD K (rIxT K) (.tuple ds) (.int i) d := fun x y F H sm rx ry Q q => by
  cases rx with
  | tup h r =>
    cases ry
    obtain ⟨v, e2, rv⟩ := atI_reps r e
    exact ⟨_, _, i, v, rfl, rfl, sqT_mono sm h, e2, q v F H (.refl sm) rv⟩
theorem rd_ixS {z : Str} {c : Nat} (hz : z.length ≤ sizeLine) (e : atI z.cps.toList i = some c) : RD K rIxS (.str z) (.int i) (.str ⟨#[c]⟩) := fun x y F H sm rx ry Q q => by
  cases rx; cases ry; exact ⟨z, i, c, rfl, rfl, hz, e, q _ F H (.refl sm) (.str _)⟩
theorem rd_cat {ds es : List PyData} (h : ds.length + es.length ≤ sizeLine) : RD K rCat (.list ds) (.list es) (.list (ds ++ es)) := fun x y F H sm rx ry Q q => by
  cases rx with
  | @lst a1 vs1 _ h1 r1 =>
    cases ry with
    | @lst a2 vs2 _ h2 r2 =>
      refine ⟨_, _, _, _, rfl, rfl, sm _ _ h1, sm _ _ h2, by rw [r1.len, r2.len]; exact h, fun p hp => ?_⟩
      have xt := Xt.new (o := .lst (vs1 ++ vs2)) sm hp
      exact q _ _ _ xt (.lst upd_same ((r1.append r2).mono xt.f))
/-- flat data, in -/
def flatD : PyData → Bool
  | .none => true
  | .bool _ => true
  | .int _ => true
  | .str _ => true
  | _ => false
def eqF : PyData → PyData → Bool
  | .none, .none => true
  | .bool a, .bool b => a == b
  | .bool a, .int b => (if a then 1 else 0) == b
  | .int a, .bool b => a == (if b then 1 else 0)
  | .int a, .int b => a == b
  | .str a, .str b => a == b
  | _, _ => false
theorem rep_flat {F : Hp} {v : V} (r : Rep K F v d) : flatV v = flatD d := by cases r <;> rfl
theorem rep_eqF {F : Hp} {v u : V} {d e : PyData} (r : Rep K F v d) (r' : Rep K F u e) : eqV v u = eqF d e := by cases r <;> cases r' <;> rfl
theorem reps_flat {F : Hp} {vs : List V} {ds : List PyData} (r : Reps K F vs ds) : vs.all flatV = ds.all flatD := by
  induction ds generalizing vs with
  | nil => cases r; rfl
  | cons d ds ih => cases r with | cons a t => simp [rep_flat a, ih t]
theorem reps_inV {F : Hp} {vs : List V} {ds : List PyData} {v : V} (rv : Rep K F v d) (r : Reps K F vs ds) : inV v vs = ds.any (fun y => eqF y d) := by
  unfold inV
  induction ds generalizing vs with
  | nil => cases r; rfl
  | cons e ds ih => cases r with | cons a t => simp only [List.any_cons]; rw [rep_eqF a rv, ih t]
theorem rd_in {neg : Bool} {ds : List PyData} (hd : flatD d = true) (hs : ds.all flatD = true) : RD K (rIn K neg) d (.list ds) (.bool (if neg then !(ds.any fun y => eqF y d) else (ds.any fun y => eqF y d))) := fun x y F H sm rx ry Q q => by
  cases ry with
  | lst h r =>
    refine ⟨_, _, rfl, .inl (SqL.of (sm _ _ h)), by rw [rep_flat rx]; exact hd, by rw [reps_flat r]; exact hs, ?_⟩
    rw [reps_inV rx r]
    exact q _ F H (.refl sm) (.bl _)
theorem rd_inT {neg : Bool} {ds : List PyData} (hd : flatD d = true) (hs : ds.all flatD = true) : RD K (rIn K neg) d (.tuple ds) (.bool (if neg then !(ds.any fun y => eqF y d) else (ds.any fun y => eqF y d))) := fun x y F H sm rx ry Q q => by
  cases ry with
  | tup h r =>
    refine ⟨_, _, rfl, .inr (sqT_mono sm h), by rw [rep_flat rx]; exact hd, by rw [reps_flat r]; exact hs, ?_⟩
    rw [reps_inV rx r]
    exact q _ F H (.refl sm) (.bl _)

/-! short forms -/
theorem dp_add (ha : DP X a δ (.int i)) (hb : DP X b δ (.int j)) : DP X (.BinOp a .Add b pos) δ (.int (i + j)) := dp_bop op_add ha hb rd_II
theorem dp_sub (ha : DP X a δ (.int i)) (hb : DP X b δ (.int j)) : DP X (.BinOp a .Sub b pos) δ (.int (i - j)) := dp_bop op_sub ha hb rd_II
theorem dp_mul (ha : DP X a δ (.int i)) (hb : DP X b δ (.int j)) (hc : CMulX i j) : DP X (.BinOp a .Mult b pos) δ (.int (i * j)) := dp_bop op_mulX ha hb (rd_CI hc)
theorem dp_mod (ha : DP X a δ (.int i)) (hb : DP X b δ (.int j)) (hc : 0 < j) : DP X (.BinOp a .Mod b pos) δ (.int (i % j)) := dp_bop op_mod ha hb (rd_CI hc)
theorem dp_div (ha : DP X a δ (.int i)) (hb : DP X b δ (.int j)) (hc : CDivW i j) : DP X (.BinOp a .FloorDiv b pos) δ (.int (i / j)) := dp_bop op_fdivW ha hb (rd_CI hc)
theorem dp_shl (ha : DP X a δ (.int i)) (hb : DP X b δ (.int j)) (hc : CShl i j) : DP X (.BinOp a .LShift b pos) δ (.int (i * 2 ^ j.toNat)) := dp_bop op_shlW ha hb (rd_CI hc)
theorem dp_shr (ha : DP X a δ (.int i)) (hb : DP X b δ (.int j)) (hc : 0 ≤ j) : DP X (.BinOp a .RShift b pos) δ (.int (i / 2 ^ j.toNat)) := dp_bop op_shr ha hb (rd_CI hc)
theorem dp_pow (ha : DP X a δ (.int i)) (hb : DP X b δ (.int j)) (hc : CPow i j) : DP X (.BinOp a .Pow b pos) δ (.int (i ^ j.toNat)) := dp_bop op_pow ha hb (rd_CI hc)
theorem dp_band (ha : DP X a δ (.int i)) (hb : DP X b δ (.int j)) : DP X (.BinOp a .BitAnd b pos) δ (.int (Builtin.bitAnd i j)) := dp_bop op_and ha hb rd_II
theorem dp_adds {s t : Str} (ha : DP X a δ (.str s)) (hb : DP X b δ (.str t)) (h : s.length + t.length ≤ sizeLine) : DP X (.BinOp a .Add b pos) δ (.str (s ++ t)) := dp_bop op_add_str ha hb (rd_addS h)
theorem dp_cat {xs ys : List PyData} (ha : DP X a δ (.list xs)) (hb : DP X b δ (.list ys)) (h : xs.length + ys.length ≤ sizeLine) : DP X (.BinOp a .Add b pos) δ (.list (xs ++ ys)) := dp_bop op_cat ha hb (rd_cat h)
theorem dp_ixL {xs : List PyData} (ha : DP X a δ (.list xs)) (hb : DP X b δ (.int i)) (h : atI xs i = some d) (hs : PlainIx b := by exact fun _ _ => rfl) : DP X (.Subscript a b pos) δ d := dp_ix ix_list ha hb (rd_ixL h) hs
theorem dp_ixT {xs : List PyData} (ha : DP X a δ (.tuple xs)) (hb : DP X b δ (.int i)) (h : atI xs i = some d) (hs : PlainIx b := by exact fun _ _ => rfl) : DP X (.Subscript a b pos) δ d := dp_ix ix_tup ha hb (rd_ixT h) hs
theorem dp_ixS {z : Str} {c : Nat} (ha : DP X a δ (.str z)) (hb : DP X b δ (.int i)) (hz : z.length ≤ sizeLine) (h : atI z.cps.toList i = some c) (hs : PlainIx b := by exact fun _ _ => rfl) : DP X (.Subscript a b pos) δ (.str ⟨#[c]⟩) := dp_ix ix_str ha hb (rd_ixS hz h) hs
theorem dp_lt (ha : DP X a δ (.int i)) (hb : DP X b δ (.int j)) : DP X (.Compare a [.Lt] [b] pos) δ (.bool (decide (i < j))) := dp_cmp op_lt ha hb rd_IB (nomark _)
theorem dp_le (ha : DP X a δ (.int i)) (hb : DP X b δ (.int j)) : DP X (.Compare a [.LtE] [b] pos) δ (.bool (decide (i ≤ j))) := dp_cmp op_le ha hb rd_IB (nomark _)
theorem dp_eqI (ha : DP X a δ (.int i)) (hb : DP X b δ (.int j)) : DP X (.Compare a [.Eq] [b] pos) δ (.bool (decide (i = j))) := dp_cmp op_eq ha hb rd_eqI (nomark _)
theorem dp_neI (ha : DP X a δ (.int i)) (hb : DP X b δ (.int j)) : DP X (.Compare a [.NotEq] [b] pos) δ (.bool (!decide (i = j))) := dp_cmp op_ne ha hb rd_neI (nomark _)
theorem dp_eqS {s t : Str} (ha : DP X a δ (.str s)) (hb : DP X b δ (.str t)) : DP X (.Compare a [.Eq] [b] pos) δ (.bool (decide (s = t))) := dp_cmp op_eq ha hb rd_eqS (nomark _)
theorem dp_neS {s t : Str} (ha : DP X a δ (.str s)) (hb : DP X b δ (.str t)) : DP X (.Compare a [.NotEq] [b] pos) δ (.bool (!decide (s = t))) := dp_cmp op_ne ha hb rd_neS (nomark _)
theorem dt_lt (ha : DP X a δ (.int i)) (hb : DP X b δ (.int j)) : DT X (.Compare a [.Lt] [b] pos) δ (decide (i < j)) := dt_cmp op_lt ha hb rd_IB (nomark _)
theorem dt_le (ha : DP X a δ (.int i)) (hb : DP X b δ (.int j)) : DT X (.Compare a [.LtE] [b] pos) δ (decide (i ≤ j)) := dt_cmp op_le ha hb rd_IB (nomark _)
theorem dt_gt (ha : DP X a δ (.int i)) (hb : DP X b δ (.int j)) : DT X (.Compare a [.Gt] [b] pos) δ (decide (j < i)) := dt_cmp op_gt ha hb rd_IB (nomark _)
theorem dt_ge (ha : DP X a δ (.int i)) (hb : DP X b δ (.int j)) : DT X (.Compare a [.GtE] [b] pos) δ (decide (j ≤ i)) := dt_cmp op_ge ha hb rd_IB (nomark _)
theorem dt_eqI (ha : DP X a δ (.int i)) (hb : DP X b δ (.int j)) : DT X (.Compare a [.Eq] [b] pos) δ (decide (i = j)) := dt_cmp op_eq ha hb rd_eqI (nomark _)
theorem dt_neI (ha : DP X a δ (.int i)) (hb : DP X b δ (.int j)) : DT X (.Compare a [.NotEq] [b] pos) δ (!decide (i = j)) := dt_cmp op_ne ha hb rd_neI (nomark _)
theorem dt_eqS {s t : Str} (ha : DP X a δ (.str s)) (hb : DP X b δ (.str t)) : DT X (.Compare a [.Eq] [b] pos) δ (decide (s = t)) := dt_cmp op_eq ha hb rd_eqS (nomark _)
theorem dt_neS {s t : Str} (ha : DP X a δ (.str s)) (hb : DP X b δ (.str t)) : DT X (.Compare a [.NotEq] [b] pos) δ (!decide (s = t)) := dt_cmp op_ne ha hb rd_neS (nomark _)
theorem dt_neB {s t : Bool} (ha : DP X a δ (.bool s)) (hb : DP X b δ (.bool t)) : DT X (.Compare a [.NotEq] [b] pos) δ (!decide (s = t)) := dt_cmp op_ne ha hb rd_neB (nomark _)
theorem dt_isN (ha : DP X a δ d) {k pos'} : DT X (.Compare a [.Is] [.Constant .none k pos'] pos) δ (isNon d) := dt_cmp op_isN ha dp_non rd_isN (nomark _)
theorem dt_notN (ha : DP X a δ d) {k pos'} : DT X (.Compare a [.IsNot] [.Constant .none k pos'] pos) δ (!isNon d) := dt_cmp op_notN ha dp_non rd_notN (nomark _)
theorem dt_eqD (hu : X.A.units + 64 < cLine) (ha : DP X a δ d1) (hb : DP X b δ d2) (h1 : SeqAt.shaped d1 = true) (h2 : SeqAt.shaped d2 = true) : DT X (.Compare a [.Eq] [b] pos) δ (PyData.eqv d1 d2) := dt_cmp (op_eqD hu) ha hb (rd_eqD h1 h2) (nomark _)
theorem dt_neD (hu : X.A.units + 64 < cLine) (ha : DP X a δ d1) (hb : DP X b δ d2) (h1 : SeqAt.shaped d1 = true) (h2 : SeqAt.shaped d2 = true) : DT X (.Compare a [.NotEq] [b] pos) δ (!PyData.eqv d1 d2) := dt_cmp (op_neD hu) ha hb (rd_neD h1 h2) (nomark _)

/-! tests -/
theorem dt_val (h : DP X e δ (.bool p)) (he : ∀ whole, isTrue e X.env whole = (do let v ← whole; standAt e.pos; holding [v] (truthy v)) := by intro _; rfl) : DT X e δ p := fun F σ H sm sl Q q =>
  wT_of (pt_val pe_star he) (h F σ H sm sl _ fun v F1 H1 x1 r => by cases r; exact ⟨p, rfl, q F1 H1 x1⟩)
theorem dw_and1 (h : DT X a δ p) : DW X (.BoolOp .And [a] pos) δ p := fun F σ H sm sl Q q => wW_of (pw_and1 pt_star) (h F σ H sm sl Q q)
theorem dw_or1 (h : DT X a δ p) : DW X (.BoolOp .Or [a] pos) δ p := fun F σ H sm sl Q q => wW_of (pw_or1 pt_star) (h F σ H sm sl Q q)
theorem dw_and {rest : List Expr} (h : DT X a δ p) (h2 : p = true → DW X (.BoolOp .And (b :: rest) pos) δ q) : DW X (.BoolOp .And (a :: b :: rest) pos) δ (p && q) := fun F σ H sm sl Q k =>
  wW_of (pw_and pt_star pw_star) (h F σ H sm sl _ fun F1 H1 x1 => by
    cases p with
    | true => exact iteT (h2 rfl F1 σ H1 x1.s (sl.mono x1.f) Q fun F2 H2 x2 => k F2 H2 (x1.trans x2))
    | false => exact iteF (k F1 H1 x1))
theorem dw_or {rest : List Expr} (h : DT X a δ p) (h2 : p = false → DW X (.BoolOp .Or (b :: rest) pos) δ q) : DW X (.BoolOp .Or (a :: b :: rest) pos) δ (p || q) := fun F σ H sm sl Q k =>
  wW_of (pw_or pt_star pw_star) (h F σ H sm sl _ fun F1 H1 x1 => by
    cases p with
    | true => exact iteT (k F1 H1 x1)
    | false => exact iteF (h2 rfl F1 σ H1 x1.s (sl.mono x1.f) Q fun F2 H2 x2 => k F2 H2 (x1.trans x2)))
theorem dt_w (h : DW X e δ p) : DT X e δ p := fun F σ H sm sl Q q => wT_of (PW.pt pw_star) (h F σ H sm sl Q q)
theorem dt_not (h : DT X a δ p) : DT X (.UnaryOp .Not a pos) δ (!p) := fun F σ H sm sl Q q => wT_of (pt_not pt_star) (h F σ H sm sl _ fun F1 H1 x1 => q F1 H1 x1)
/-! and, or, not as values -/
theorem dp_one {op} (h : DP X a δ d) : DP X (.BoolOp op [a] pos) δ d := fun F σ H sm sl Q q => wE_of (pe_one pe_star) (h F σ H sm sl Q q)
theorem dp_and {rest : List Expr} (h : DP X a δ (.bool p)) (h2 : p = true → DP X (.BoolOp .And (b :: rest) pos) δ (.bool q)) : DP X (.BoolOp .And (a :: b :: rest) pos) δ (.bool (p && q)) := fun F σ H sm sl Q k =>
  wE_of (pe_and pe_star pe_star) (h F σ H sm sl _ fun v F1 H1 x1 r => by
    cases r
    refine ⟨p, rfl, ?_⟩
    cases p with
    | true => exact iteT (h2 rfl F1 σ H1 x1.s (sl.mono x1.f) Q fun v F2 H2 x2 r => k v F2 H2 (x1.trans x2) r)
    | false => exact iteF (k _ F1 H1 x1 (.bl _)))
theorem dp_or {rest : List Expr} (h : DP X a δ (.bool p)) (h2 : p = false → DP X (.BoolOp .Or (b :: rest) pos) δ (.bool q)) : DP X (.BoolOp .Or (a :: b :: rest) pos) δ (.bool (p || q)) := fun F σ H sm sl Q k =>
  wE_of (pe_or pe_star pe_star) (h F σ H sm sl _ fun v F1 H1 x1 r => by
    cases r
    refine ⟨p, rfl, ?_⟩
    cases p with
    | true => exact iteT (k _ F1 H1 x1 (.bl _))
    | false => exact iteF (h2 rfl F1 σ H1 x1.s (sl.mono x1.f) Q fun v F2 H2 x2 r => k v F2 H2 (x1.trans x2) r))
theorem dp_not (h : DP X a δ (.bool p)) : DP X (.UnaryOp .Not a pos) δ (.bool (!p)) := fun F σ H sm sl Q k =>
  wE_of (pe_not pe_star) (h F σ H sm sl _ fun v F1 H1 x1 r => by cases r; exact ⟨p, rfl, k _ F1 H1 x1 (.bl _)⟩)

/-! arguments, displays -/
theorem da_nil : DA X [] δ [] := fun F σ H sm sl Q q => wA_of pa_nil (q _ F H (.refl sm) .nil)
theorem da_cons (h : DP X e δ d) (h2 : DA X es δ ds) (hs : starEach (e :: es) X.env = (false, eval e X.env) :: starEach es X.env := by rfl) : DA X (e :: es) δ (d :: ds) := fun F σ H sm sl Q q =>
  wA_of (pa_cons pe_star pa_star hs) (h F σ H sm sl _ fun v F1 H1 x1 r => h2 F1 σ H1 x1.s (sl.mono x1.f) _ fun vs F2 H2 x2 rs => q _ F2 H2 (x1.trans x2) (.cons (r.mono x2.f) rs))
theorem dp_tup {k} (h : DA X es δ ds) (hz : ds.length ≤ 1000 := by first | decide | simp) : DP X (.Tuple es k pos) δ (.tuple ds) := fun F σ H sm sl Q q =>
  wE_of (pe_tup pa_star) (h F σ H sm sl _ fun vs F1 H1 x1 rs => ⟨by rw [rs.len]; exact Nat.le_of_lt (small1000 hz), fun p hp => by
    have xt := Xt.new (o := .tup vs) x1.s hp
    exact q _ _ _ (x1.trans xt) (.tup (SqT.of upd_same) (rs.mono xt.f))⟩)
theorem dp_lst (h : DA X es δ ds) (hz : ds.length ≤ 1000 := by first | decide | simp) : DP X (.List es pos) δ (.list ds) := fun F σ H sm sl Q q =>
  wE_of (pe_lst pa_star) (h F σ H sm sl _ fun vs F1 H1 x1 rs => ⟨by rw [rs.len]; exact Nat.le_of_lt (small1000 hz), fun p hp => by
    have xt := Xt.new (o := .lst vs) x1.s hp
    exact q _ _ _ (x1.trans xt) (.lst upd_same (rs.mono xt.f))⟩)

/-! built-ins by name, methods of texts -/
theorem dp_callB {id : String} {x : Str} {p0 : Pos} {r : List V → Hp → VK → Prop} (hc : CallR X (.builtin id) r) (hg : Gl X x) (hm : X.mg x = none) (hv : bootBuiltins x = some (.builtin id)) (ha : DA X (e :: es) δ ds) (hr : RC X.K r ds d)
    (hn : x ≠ "__name__" := by decide) (hdb : (x == ("__debug__" : Str)) = false := by decide) (he : starEach (e :: es) X.env = (false, eval e X.env) :: starEach es X.env := by rfl) (hpl : (backTo pos (starEach es X.env)).any (·.1) = false := by rfl) : DP X (.Call (.Name x p0) (e :: es) [] pos) δ d := fun F σ H sm sl Q q =>
  wE_of (pe_callB hc hg hm hv pa_star hn hdb he hpl) (ha F σ H sm sl _ fun vs F1 H1 x1 rs => hr vs F1 H1 x1.s rs Q fun v F2 H2 x2 rv => q v F2 H2 (x1.trans x2) rv)
theorem dp_callTy {T : String} {x : Str} {p0 : Pos} {r : List V → Hp → VK → Prop} (hc : CallR X (.type T) r) (hg : Gl X x) (hm : X.mg x = none) (hv : bootBuiltins x = some (.type T)) (ha : DA X (e :: es) δ ds) (hr : RC X.K r ds d)
    (hn : x ≠ "__name__" := by decide) (hdb : (x == ("__debug__" : Str)) = false := by decide) (he : starEach (e :: es) X.env = (false, eval e X.env) :: starEach es X.env := by rfl) (hpl : (backTo pos (starEach es X.env)).any (·.1) = false := by rfl) : DP X (.Call (.Name x p0) (e :: es) [] pos) δ d := fun F σ H sm sl Q q =>
  wE_of (pe_callTy hc hg hm hv pa_star hn hdb he hpl) (ha F σ H sm sl _ fun vs F1 H1 x1 rs => hr vs F1 H1 x1.s rs Q fun v F2 H2 x2 rv => q v F2 H2 (x1.trans x2) rv)
end
end SS
set_option maxHeartbeats 4000000
/-! The data layer, three: slices, built-ins, walks, targets, comprehensions, calls. -/
namespace SS
open PySem PySem.Spec PyProof.Rows L2

/-! ### slices -/
def wO (X : Cx) (e : Option Expr) : TO := fun σ H Q => Hd (∀ (pins : List (Addr × Obj)) (s : Shared), Inv X pins σ H s → wpAny (model X.prog X.w) X.A (evalPart e X.env) (fun u s' => ∃ o H', Inv X pins σ H' s' ∧ IsPart u o ∧ Q o H') X.xe s)
theorem po_star {X : Cx} {e : Option Expr} : PO X e (wO X e) := ⟨fun pins s σ H Q I h => h.un pins s I⟩
theorem wO_of {X : Cx} {e : Option Expr} {t : TO} {σ : L2.St} {H : Hp} {Q : Option Int → Hp → Prop} (h : PO X e t) (q : t σ H Q) : wO X e σ H Q := ⟨fun pins s I => h.run pins s σ H Q I q⟩
def DO (X : Cx) (e : Option Expr) (δ : Dl) (o : Option Int) : Prop := ∀ (F : Hp) (σ : L2.St) (H : Hp), Same F H → PSl X.K F δ σ → ∀ Q : Option Int → Hp → Prop, (∀ F' H', Xt F H F' H' → Q o H') → wO X e σ H Q
def cutD {α : Type} (xs : List α) (lo hi : Option Int) : List α := (xs.drop (HT.sIx xs.length 0 lo)).take (HT.sIx xs.length xs.length hi - HT.sIx xs.length 0 lo)
section
variable {X : Cx} {δ : Dl} {a b c e : Expr} {es : List Expr} {pos : Pos} {d d1 d2 : PyData} {ds : List PyData} {i j : Int} {p q : Bool} {lo hi : Option Expr} {l h : Option Int} {K : PySem.W.Frag}
theorem do_none : DO X none δ none := fun F σ H sm sl Q q => wO_of po_none (q F H (.refl sm))
theorem do_some (ha : DP X a δ (.int i)) : DO X (some a) δ (some i) := fun F σ H sm sl Q q => wO_of (po_some pe_star) (ha F σ H sm sl _ fun v F1 H1 x1 r => by cases r; exact ⟨i, rfl, q F1 H1 x1⟩)
def RS (K : PySem.W.Frag) (r : V → Option Int → Option Int → Hp → VK → Prop) (d0 : PyData) (l h : Option Int) (d : PyData) : Prop := ∀ (x : V) (F H : Hp), Same F H → Rep K F x d0 → ∀ Q : VK, (∀ v F' H', Xt F H F' H' → Rep K F' v d → Q v H') → r x l h H Q
theorem dp_slice {r : V → Option Int → Option Int → Hp → VK → Prop} {p2 : Pos} (hr : SlR X r) (ha : DP X a δ d1) (hl : DO X lo δ l) (hh : DO X hi δ h) (hd : RS X.K r d1 l h d) : DP X (.Subscript a (.Slice lo hi none p2) pos) δ d := fun F σ H sm sl Q q =>
  wE_of (pe_slice hr pe_star po_star po_star) (ha F σ H sm sl _ fun x F1 H1 x1 rx => hl F1 σ H1 x1.s (sl.mono x1.f) _ fun F2 H2 x2 => hh F2 σ H2 x2.s (sl.mono (x1.trans x2).f) _ fun F3 H3 x3 =>
    hd x F3 H3 x3.s (rx.mono (x2.trans x3).f) Q fun v F4 H4 x4 rv => q v F4 H4 (((x1.trans x2).trans x3).trans x4) rv)
theorem rs_str {z : Str} (hz : z.length ≤ sizeLine) : RS K rSlS (.str z) l h (.str (cutS z l h)) := fun x F H sm rx Q q => by cases rx; exact ⟨z, rfl, hz, q _ F H (.refl sm) (.str _)⟩
theorem reps_cut {F : Hp} {vs : List V} (r : Reps K F vs ds) : Reps K F (cutV vs l h) (cutD ds l h) := by unfold cutV cutD; rw [r.len]; exact (r.drop _).take _
theorem rs_lst : RS K (rSlL K) (.list ds) l h (.list (cutD ds l h)) := fun x F H sm rx Q q => by
  cases rx with
  | @lst a1 vs1 _ h1 r1 =>
    refine ⟨_, _, rfl, SqL.of (sm _ _ h1), fun p hp => ?_⟩
    have xt := Xt.new (o := .lst (cutV vs1 l h)) sm hp
    exact q _ _ _ xt (.lst upd_same ((reps_cut r1).mono xt.f))
theorem dp_slS {z : Str} {p2 : Pos} (ha : DP X a δ (.str z)) (hl : DO X lo δ l) (hh : DO X hi δ h) (hz : z.length ≤ sizeLine) : DP X (.Subscript a (.Slice lo hi none p2) pos) δ (.str (cutS z l h)) := dp_slice sl_str ha hl hh (rs_str hz)
theorem dp_slL {p2 : Pos} (ha : DP X a δ (.list ds)) (hl : DO X lo δ l) (hh : DO X hi δ h) : DP X (.Subscript a (.Slice lo hi none p2) pos) δ (.list (cutD ds l h)) := dp_slice sl_list ha hl hh rs_lst

/-! ### built-ins on data -/
theorem rc_len : RC K (fun xs H Q => ∃ p ys, xs = [.ref p] ∧ (SqL K H p ys ∨ SqT K H p ys) ∧ Q (.int ys.length) H) [.list ds] (.int ds.length) := fun vs F H sm rs Q q => by
  cases rs with | cons r t => cases t; cases r with | lst h r => exact ⟨_, _, rfl, .inl (SqL.of (sm _ _ h)), by rw [r.len]; exact q _ F H (.refl sm) (.int _)⟩
theorem rc_lenT : RC K (fun xs H Q => ∃ p ys, xs = [.ref p] ∧ (SqL K H p ys ∨ SqT K H p ys) ∧ Q (.int ys.length) H) [.tuple ds] (.int ds.length) := fun vs F H sm rs Q q => by
  cases rs with | cons r t => cases t; cases r with | tup h r => exact ⟨_, _, rfl, .inr (sqT_mono sm h), by rw [r.len]; exact q _ F H (.refl sm) (.int _)⟩
theorem rc_lenS {z : Str} (hz : z.length ≤ sizeLine) : RC K (fun xs H Q => ∃ z, xs = [.str z] ∧ z.length ≤ sizeLine ∧ Q (.int z.length) H) [.str z] (.int z.length) := fun vs F H sm rs Q q => by
  cases rs with | cons r t => cases t; cases r; exact ⟨z, rfl, hz, q _ F H (.refl sm) (.int _)⟩
theorem rc_abs : RC K (fun xs H Q => ∃ i, xs = [.int i] ∧ Q (.int (if i < 0 then -i else i)) H) [.int i] (.int (if i < 0 then -i else i)) := fun vs F H sm rs Q q => by
  cases rs with | cons r t => cases t; cases r; exact ⟨i, rfl, q _ F H (.refl sm) (.int _)⟩
theorem rc_max2 : RC K (fun xs H Q => ∃ i j, xs = [.int i, .int j] ∧ Q (.int (if j > i then j else i)) H) [.int i, .int j] (.int (if j > i then j else i)) := fun vs F H sm rs Q q => by
  cases rs with | cons r t => cases r; cases t with | cons r t => cases r; cases t; exact ⟨i, j, rfl, q _ F H (.refl sm) (.int _)⟩
theorem rc_min2 : RC K (fun xs H Q => ∃ i j, xs = [.int i, .int j] ∧ Q (.int (if j < i then j else i)) H) [.int i, .int j] (.int (if j < i then j else i)) := fun vs F H sm rs Q q => by
  cases rs with | cons r t => cases r; cases t with | cons r t => cases r; cases t; exact ⟨i, j, rfl, q _ F H (.refl sm) (.int _)⟩
theorem rc_intB : RC K (fun xs H Q => (∃ i, xs = [.int i] ∧ Q (.int i) H) ∨ ∃ k, xs = [.bl k] ∧ Q (.int (if k then 1 else 0)) H) [.bool p] (.int (if p then 1 else 0)) := fun vs F H sm rs Q q => by
  cases rs with | cons r t => cases t; cases r; exact .inr ⟨p, rfl, q _ F H (.refl sm) (.int _)⟩
theorem rc_strI (h : i.natAbs.log2 < 1920) : RC K (fun xs H Q => ∃ i, xs = [.int i] ∧ i.natAbs.log2 < 1920 ∧ Q (.str (toString i)) H) [.int i] (.str (Str.ofString (toString i))) := fun vs F H sm rs Q q => by
  cases rs with | cons r t => cases t; cases r; exact ⟨i, rfl, h, q _ F H (.refl sm) (.str _)⟩
theorem rc_intS {z : Str} {n : Int} (h : PySem.intText? z = some n) (hz : z.length ≤ 640) : RC K (fun xs H Q => ∃ a n, xs = [.str a] ∧ PySem.intText? a = some n ∧ a.length ≤ 640 ∧ Q (.int n) H) [.str z] (.int n) := fun vs F H sm rs Q q => by
  cases rs with | cons r t => cases t; cases r; exact ⟨z, n, rfl, h, hz, q _ F H (.refl sm) (.int _)⟩
theorem rc_sum {ns : List Int} : RC K (rSum K) [.list (ns.map .int)] (.int ns.sum) := fun vs F H sm rs Q q => by
  cases rs with | cons r t => cases t; cases r with | lst h r => rw [r.ints_inv] at h; exact ⟨_, ns, rfl, SqL.of (sm _ _ h), q _ F H (.refl sm) (.int _)⟩
theorem rc_min {ns : List Int} {m : Int} (h0 : 0 < ns.length) (hm : ∀ k, k ∈ ns → (∀ y, y ∈ ns → k ≤ y) → k = m) : RC K (rMin K) [.list (ns.map .int)] (.int m) := fun vs F H sm rs Q q => by
  cases rs with | cons r t => cases t; cases r with | lst h r => rw [r.ints_inv] at h; exact ⟨_, ns, rfl, SqL.of (sm _ _ h), h0, fun k hk hl => by rw [hm k hk hl]; exact q _ F H (.refl sm) (.int _)⟩
theorem rc_any {ns : List Bool} : RC K (rAny K) [.list (ns.map .bool)] (.bool (ns.any id)) := fun vs F H sm rs Q q => by
  cases rs with | cons r t => cases t; cases r with | lst h r => rw [r.bls_inv] at h; exact ⟨_, ns, rfl, SqL.of (sm _ _ h), q _ F H (.refl sm) (.bl _)⟩
theorem rc_all {ns : List Bool} : RC K (rAll K) [.list (ns.map .bool)] (.bool (ns.all id)) := fun vs F H sm rs Q q => by
  cases rs with | cons r t => cases t; cases r with | lst h r => rw [r.bls_inv] at h; exact ⟨_, ns, rfl, SqL.of (sm _ _ h), q _ F H (.refl sm) (.bl _)⟩
theorem rc_list : RC K (fun xs H Q => ∃ p ys, xs = [.ref p] ∧ (SqL K H p ys ∨ SqT K H p ys) ∧ ∀ l, H l = none → Q (.ref l) (upd H l (.lst ys))) [.list ds] (.list ds) := fun vs F H sm rs Q q => by
  cases rs with | cons r t => cases t; cases r with | @lst a1 vs1 _ h r => exact ⟨_, vs1, rfl, .inl (SqL.of (sm _ _ h)), fun l hl => by
    have xt := Xt.new (o := .lst vs1) sm hl
    exact q _ _ _ xt (.lst upd_same (r.mono xt.f))⟩
theorem rc_listT : RC K (fun xs H Q => ∃ p ys, xs = [.ref p] ∧ (SqL K H p ys ∨ SqT K H p ys) ∧ ∀ l, H l = none → Q (.ref l) (upd H l (.lst ys))) [.tuple ds] (.list ds) := fun vs F H sm rs Q q => by
  cases rs with | cons r t => cases t; cases r with | @tup a1 vs1 _ h r => exact ⟨_, vs1, rfl, .inr (sqT_mono sm h), fun l hl => by
    have xt := Xt.new (o := .lst vs1) sm hl
    exact q _ _ _ xt (.lst upd_same (r.mono xt.f))⟩
theorem rc_tupL : RC K (fun xs H Q => ∃ p ys, xs = [.ref p] ∧ ((SqL K H p ys ∧ ∀ l, H l = none → Q (.ref l) (upd H l (.tup ys))) ∨ (SqT K H p ys ∧ Q (.ref p) H))) [.list ds] (.tuple ds) := fun vs F H sm rs Q q => by
  cases rs with | cons r t => cases t; cases r with | @lst a1 vs1 _ h r => exact ⟨_, vs1, rfl, .inl ⟨SqL.of (sm _ _ h), fun l hl => by
    have xt := Xt.new (o := .tup vs1) sm hl
    exact q _ _ _ xt (.tup (SqT.of upd_same) (r.mono xt.f))⟩⟩
theorem rc_tupS : RC K (fun xs H Q => ∃ p ys, xs = [.ref p] ∧ ((SqL K H p ys ∧ ∀ l, H l = none → Q (.ref l) (upd H l (.tup ys))) ∨ (SqT K H p ys ∧ Q (.ref p) H))) [.list ds] (.dict [(.tuple ds, .none)]) := fun vs F H sm rs Q q => by
  cases rs with | cons r t => cases t; cases r with | @lst a1 vs1 _ h r => exact ⟨_, vs1, rfl, .inl ⟨SqL.of (sm _ _ h), fun l hl => by
    have xt := Xt.new (o := .tup vs1) sm hl
    exact q _ _ _ xt (.stup upd_same (r.mono xt.f))⟩⟩
/-! isinstance of data against a built-in type -/
def tyD : PyData → Value
  | .none => .type "NoneType"
  | .bool _ => .type "bool"
  | .int _ => .type "int"
  | .str _ => .type "str"
  | .list _ => .type "list"
  | .tuple _ => .type "tuple"
  | .dict [(.list _, _)] => .none
  | .dict _ => .type "tuple"
theorem rep_ty {F : Hp} {v : V} {T : String} (hT : tyD d = .type T) (r : Rep K F v d) : TyX K F v (tyD d) := by
  cases r with
  | non => exact .base .non
  | bl b => exact .base (.bl b)
  | int b => exact .base (.int b)
  | str b => exact .base (.str b)
  | lst h r => exact .base (.lst h)
  | tup h r =>
    rcases h with (h | ⟨o, h⟩) | ⟨o, its, n, h1, h2, h3⟩
    · exact .base (.tup h)
    · exact .fTuple h
    · exact .kTuple h1 h2
  | stup h r => exact .base (.tup h)
  | slst h r => cases hT

/-! methods of texts -/
theorem dp_m1 {id : String} {name : Str} {apos : Pos} {r : V → List V → Hp → VK → Prop} {z : Str} (slot : Slot "str" name id) (ty : typeOf (.builtin id) = pure (.type "method_descriptor")) (rule : MtR X id r) (ho : DP X a δ (.str z)) (he : DP X e δ d1) (hr : RM X.K r (.str z) [d1] d)
    (hs : starEach [e] X.env = [(false, eval e X.env)] := by rfl) (hbase : attributeBase a name X.env (eval a X.env) = eval a X.env := by rfl) (hline : (apos.endLine == pos.line) = true := by rfl) : DP X (.Call (.Attribute a name apos) [e] [] pos) δ d := fun F σ H sm sl Q q =>
  wE_of (pe_m1 slot ty rule pe_star pe_star hs hbase hline) (ho F σ H sm sl _ fun x F1 H1 x1 rx => by
    cases rx
    exact ⟨⟨z, rfl⟩, he F1 σ H1 x1.s (sl.mono x1.f) _ fun y F2 H2 x2 ry => hr _ _ F2 H2 x2.s (.str z) (.cons ry .nil) Q fun v F3 H3 x3 rv => q v F3 H3 ((x1.trans x2).trans x3) rv⟩)
theorem rm_startswith {z t : Str} : RM K (fun x xs H Q => ∃ a b, x = .str a ∧ xs = [.str b] ∧ Q (.bl (Txt.startswith a b)) H) (.str z) [.str t] (.bool (Txt.startswith z t)) := fun x vs F H sm rx rs Q q => by
  cases rx; cases rs with | cons r t => cases t; cases r; exact ⟨_, _, rfl, rfl, q _ F H (.refl sm) (.bl _)⟩
theorem rm_find {z t : Str} : RM K (fun x xs H Q => ∃ a b, x = .str a ∧ xs = [.str b] ∧ Q (.int (Txt.find a b)) H) (.str z) [.str t] (.int (Txt.find z t)) := fun x vs F H sm rx rs Q q => by
  cases rx; cases rs with | cons r t => cases t; cases r; exact ⟨_, _, rfl, rfl, q _ F H (.refl sm) (.int _)⟩
theorem rm_split {z t : Str} (h : (t.length == 0) = false) (hz : z.length + 2 ≤ sizeLine) : RM K (fun x xs H Q => ∃ a b, x = .str a ∧ xs = [.str b] ∧ (b.length == 0) = false ∧ a.length + 2 ≤ sizeLine ∧ rNewStrs (Txt.split a b) H Q) (.str z) [.str t] (.list ((Txt.split z t).map .str)) := fun x vs F H sm rx rs Q q => by
  cases rx; cases rs with | cons r t' => cases t'; cases r; exact ⟨_, _, rfl, rfl, h, hz, fun p hp => by
    have xt := Xt.new (o := .lst ((Txt.split z t).map V.str)) sm hp
    exact q _ _ _ xt (.lst upd_same Reps.strs)⟩
theorem rm_join {z : Str} {ys : List Str} (h : (ys.map (·.length)).sum + ys.length * z.length ≤ 16777216) : RM K (fun x xs H Q => ∃ a p, ∃ ys : List Str, x = .str a ∧ xs = [.ref p] ∧ (SqL K H p (ys.map V.str) ∨ SqT K H p (ys.map V.str)) ∧
      (ys.map (·.length)).sum + ys.length * a.length ≤ 16777216 ∧ Q (.str (Txt.join a ys)) H) (.str z) [.list (ys.map .str)] (.str (Txt.join z ys)) := fun x vs F H sm rx rs Q q => by
  cases rx; cases rs with | cons r t => cases t; cases r with | lst h1 r1 => rw [r1.strs_inv] at h1; exact ⟨z, _, ys, rfl, rfl, .inl (SqL.of (sm _ _ h1)), h, q _ F H (.refl sm) (.str _)⟩
theorem dp_startswith {z t : Str} {apos : Pos} (ho : DP X a δ (.str z)) (he : DP X e δ (.str t)) (hs : starEach [e] X.env = [(false, eval e X.env)] := by rfl) (hbase : attributeBase a "startswith" X.env (eval a X.env) = eval a X.env := by rfl) (hline : (apos.endLine == pos.line) = true := by rfl) : DP X (.Call (.Attribute a "startswith" apos) [e] [] pos) δ (.bool (Txt.startswith z t)) :=
  dp_m1 F.slot_str_startswith F.type_str_startswith mt_startswith ho he rm_startswith hs hbase hline
theorem dp_find {z t : Str} {apos : Pos} (ho : DP X a δ (.str z)) (he : DP X e δ (.str t)) (hs : starEach [e] X.env = [(false, eval e X.env)] := by rfl) (hbase : attributeBase a "find" X.env (eval a X.env) = eval a X.env := by rfl) (hline : (apos.endLine == pos.line) = true := by rfl) : DP X (.Call (.Attribute a "find" apos) [e] [] pos) δ (.int (Txt.find z t)) :=
  dp_m1 F.slot_str_find F.type_str_find mt_find ho he rm_find hs hbase hline
theorem dp_split {z t : Str} {apos : Pos} (ho : DP X a δ (.str z)) (he : DP X e δ (.str t)) (h : (t.length == 0) = false) (hz : z.length + 2 ≤ sizeLine) (hs : starEach [e] X.env = [(false, eval e X.env)] := by rfl) (hbase : attributeBase a "split" X.env (eval a X.env) = eval a X.env := by rfl) (hline : (apos.endLine == pos.line) = true := by rfl) : DP X (.Call (.Attribute a "split" apos) [e] [] pos) δ (.list ((Txt.split z t).map .str)) :=
  dp_m1 F.slot_str_split F.type_str_split mt_split ho he (rm_split h hz) hs hbase hline
theorem dp_join {z : Str} {ys : List Str} {apos : Pos} (ho : DP X a δ (.str z)) (he : DP X e δ (.list (ys.map .str))) (h : (ys.map (·.length)).sum + ys.length * z.length ≤ 16777216) (hs : starEach [e] X.env = [(false, eval e X.env)] := by rfl) (hbase : attributeBase a "join" X.env (eval a X.env) = eval a X.env := by rfl) (hline : (apos.endLine == pos.line) = true := by rfl) : DP X (.Call (.Attribute a "join" apos) [e] [] pos) δ (.str (Txt.join z ys)) :=
  dp_m1 F.slot_str_join F.type_str_join mt_join ho he (rm_join h) hs hbase hline
/-- n.bit_length() -/
theorem dp_bits {apos : Pos} (ho : DP X a δ (.int i)) (hbase : attributeBase a "bit_length" X.env (eval a X.env) = eval a X.env := by rfl) (hline : (apos.endLine == pos.line) = true := by rfl) : DP X (.Call (.Attribute a "bit_length" apos) [] [] pos) δ (.int (Builtin.Int.intBits i : Nat)) := fun F σ H sm sl Q q =>
  wE_of (pe_bits pe_star hbase hline) (ho F σ H sm sl _ fun x F1 H1 x1 rx => by cases rx; exact ⟨i, rfl, q _ F1 H1 x1 (.int _)⟩)
end

/-! ### targets: which slots get what -/
def setV : List Nat → List V → L2.St → L2.St
  | i :: is, v :: vs, σ => setV is vs (σ.set i (some v))
  | _, _, σ => σ
def setD : List (Nat × PyData) → Dl → Dl
  | p :: r, δ => setD r (δ.set p.1 (some p.2))
  | [], δ => δ
theorem wipe_out : ∀ (own : List Nat) (σ : L2.St) (i : Nat) (o : Option V), i ∉ own → L2.wipe (σ.set i o) own = (L2.wipe σ own).set i o
  | [], _, _, _, _ => rfl
  | k :: r, σ, i, o, hn => by
    have h1 : i ∉ r := fun q => hn (List.mem_cons_of_mem _ q)
    have h2 : k ≠ i := fun q => hn (q ▸ List.mem_cons_self)
    unfold L2.wipe
    rw [wipe_out r σ i o h1, List.set_comm _ _ (Ne.symm h2)]
theorem wipe_in : ∀ (own : List Nat) (σ : L2.St) (i : Nat) (o : Option V), i ∈ own → L2.wipe (σ.set i o) own = L2.wipe σ own
  | [], _, _, _, h => by cases h
  | k :: r, σ, i, o, h => by
    by_cases hr : i ∈ r
    · unfold L2.wipe; rw [wipe_in r σ i o hr]
    · have hk : i = k := by
        rcases List.mem_cons.mp h with q | q
        · exact q
        · exact absurd q hr
      subst hk
      unfold L2.wipe
      rw [wipe_out r σ i o hr, List.set_set]
theorem wipe_wipe : ∀ (own : List Nat) (σ : L2.St), L2.wipe (L2.wipe σ own) own = L2.wipe σ own
  | [], _ => rfl
  | v :: vs, σ => by
    show (L2.wipe ((L2.wipe σ vs).set v none) vs).set v none = (L2.wipe σ vs).set v none
    by_cases h : v ∈ vs
    · rw [wipe_in _ _ _ _ h, wipe_wipe vs σ]
    · rw [wipe_out _ _ _ _ h, wipe_wipe vs σ, List.set_set]
theorem setV_wipe {own : List Nat} : ∀ {is : List Nat} {vs : List V} {σ : L2.St}, (∀ i ∈ is, i ∈ own) → L2.wipe (setV is vs σ) own = L2.wipe σ own
  | [], vs, _, _ => by cases vs <;> rfl
  | i :: is, [], _, _ => rfl
  | i :: is, v :: vs, σ, h => by
    show L2.wipe (setV is vs (σ.set i (some v))) own = _
    rw [setV_wipe fun k hk => h k (List.mem_cons_of_mem _ hk), wipe_in own σ i _ (h i List.mem_cons_self)]
theorem PSl.sets {K : PySem.W.Frag} {F : Hp} : ∀ {ps : List (Nat × PyData)} {vs : List V} {δ : Dl} {σ : L2.St}, PSl K F δ σ → Reps K F vs (ps.map (·.2)) → PSl K F (setD ps δ) (setV (ps.map (·.1)) vs σ)
  | [], vs, _, _, h, r => by cases vs <;> exact h
  | p :: ps, vs, _, _, h, r => by
    cases r with
    | @cons v vs _ _ a t => exact PSl.sets (ps := ps) (vs := vs) (δ := _) (σ := _) (h.set p.1 a) t
def wG (X : Cx) (tg : Expr) : TG := fun v σ H Q => Hd (∀ (pins : List (Addr × Obj)) (s : Shared) (u : Value), Inv X pins σ H s → RelV v u → wpAny (model X.prog X.w) X.A (assign tg X.env u) (fun _ s' => ∃ σ' H', Inv X pins σ' H' s' ∧ Q σ' H') X.xe s)
def wGs (X : Cx) (ts : List Expr) : TGs := fun vs σ H Q => Hd (∀ (pins : List (Addr × Obj)) (s : Shared) (us : List Value), Inv X pins σ H s → Vals vs us → wpAny (model X.prog X.w) X.A (assignInOrder ((assignEach ts X.env).map (·.2)) us) (fun _ s' => ∃ σ' H', Inv X pins σ' H' s' ∧ Q σ' H') X.xe s)
theorem pg_star {X : Cx} {tg : Expr} : PG X tg (wG X tg) := ⟨fun pins s σ H v u Q I r h => h.un pins s u I r⟩
theorem pgs_star {X : Cx} {ts : List Expr} : PGs X ts (wGs X ts) := ⟨fun pins s σ H v u Q I r h => h.un pins s u I r⟩
theorem wG_of {X : Cx} {tg : Expr} {t : TG} {v : V} {σ : L2.St} {H : Hp} {Q : L2.St → Hp → Prop} (h : PG X tg t) (q : t v σ H Q) : wG X tg v σ H Q := ⟨fun pins s u I r => h.run pins s σ H v u Q I r q⟩
theorem wGs_of {X : Cx} {tg : List Expr} {t : TGs} {v : List V} {σ : L2.St} {H : Hp} {Q : L2.St → Hp → Prop} (h : PGs X tg t) (q : t v σ H Q) : wGs X tg v σ H Q := ⟨fun pins s u I r => h.run pins s σ H v u Q I r q⟩
def DG (X : Cx) (tg : Expr) (x : PyData) (ps : List (Nat × PyData)) : Prop := ∀ (F : Hp) (σ : L2.St) (H : Hp) (v : V), Same F H → Rep X.K F v x → ∀ Q : L2.St → Hp → Prop, (∀ vs, Reps X.K F vs (ps.map (·.2)) → Q (setV (ps.map (·.1)) vs σ) H) → wG X tg v σ H Q
def DGs (X : Cx) (ts : List Expr) (xs : List PyData) (ps : List (Nat × PyData)) : Prop := ∀ (F : Hp) (σ : L2.St) (H : Hp) (us : List V), Same F H → Reps X.K F us xs → ∀ Q : L2.St → Hp → Prop, (∀ vs, Reps X.K F vs (ps.map (·.2)) → Q (setV (ps.map (·.1)) vs σ) H) → wGs X ts us σ H Q
theorem setV_append {is js : List Nat} : ∀ {us vs : List V} {σ : L2.St}, is.length = us.length → setV (is ++ js) (us ++ vs) σ = setV js vs (setV is us σ) := by
  induction is with
  | nil => intro us vs σ h; cases us with
    | nil => cases js <;> cases vs <;> rfl
    | cons _ _ => cases h
  | cons i is ih => intro us vs σ h; cases us with
    | nil => cases h
    | cons u us => exact ih (by simpa using h)
section
variable {X : Cx} {pos : Pos} {d : PyData} {ds : List PyData} {e : Expr} {es : List Expr} {ps qs : List (Nat × PyData)}
theorem dg_name (i : Nat) {x : Str} (hN : X.N.Nodup) (hi : X.N[i]? = some x := by rfl) (hx : Loc X.env.scope x := by first | exact Or.inl rfl | exact Or.inr rfl) (hf : X.fn x = true ∨ X.env.scope.names.lookup x = some .local := by first | exact .inl rfl | exact .inr rfl | assumption) : DG X (.Name x pos) d [(i, d)] := fun F σ H v sm r Q q =>
  wG_of (pg_name hN hi hx hf) (q [v] (.cons r .nil))
theorem dgs_nil : DGs X [] [] [] := fun F σ H us sm r Q q => by cases r; exact wGs_of pgs_nil ⟨rfl, q [] .nil⟩
theorem dgs_cons (h1 : DG X e d ps) (h2 : DGs X es ds qs) (hs : (assignEach (e :: es) X.env).map (·.2) = assign e X.env :: (assignEach es X.env).map (·.2) := by rfl) : DGs X (e :: es) (d :: ds) (ps ++ qs) := fun F σ H us sm r Q q => by
  cases r with
  | cons a t =>
    refine wGs_of (pgs_cons pg_star pgs_star hs) ⟨_, _, rfl, h1 F σ H _ sm a _ fun vs1 r1 => h2 F _ H _ sm t _ fun vs2 r2 => ?_⟩
    have k := q (vs1 ++ vs2) (by rw [List.map_append]; exact r1.append r2)
    rw [List.map_append, setV_append (by rw [r1.len]; simp)] at k
    exact k
theorem dg_tup {k n : Nat} (hc : X.calm = true) (h : DGs X es ds ps) (hn : (assignEach es X.env).length = n := by rfl) (hst : (assignEach es X.env).findIdx? (·.1) = none := by rfl) (hl : ds.length = n := by rfl) : DG X (.Tuple es k pos) (.tuple ds) ps := fun F σ H v sm r Q q => by
  cases r with
  | tup h1 r1 => exact wG_of (pg_tup hc pgs_star hn hst) ⟨_, _, rfl, sqT_mono sm h1, by rw [r1.len]; exact hl, h F σ H _ sm r1 Q q⟩
end

/-! ### walks -/
def Yields (K : PySem.W.Frag) (J : It) (xs : List PyData) (F : Hp) : Prop := ∀ (i : Nat) (F2 H2 : Hp), Same F F2 → Same F2 H2 →
  (∀ x, xs[i]? = some x → J.go i H2 ∧ ∀ v H3, J.yld i H2 v H3 → ∃ F3, Xt F2 H2 F3 H3 ∧ Rep K F3 v x) ∧ (i = xs.length → J.stop i H2)
def wI (X : Cx) (tg iter : Expr) : TI := fun σ H R => Hd (∀ (pins : List (Addr × Obj)) (s : Shared), Inv X pins σ H s →
    wpAny (model X.prog X.w) X.A (eval iter X.env) (fun v s1 => wpAny (model X.prog X.w) X.A (pyIter v) (PIE X pins σ tg R) X.xe s1) X.xe s)
theorem pi_star {X : Cx} {tg iter : Expr} : PI X tg iter (wI X tg iter) := ⟨fun pins s σ H R I h => h.un pins s I⟩
theorem wI_of {X : Cx} {tg iter : Expr} {t : TI} {σ : L2.St} {H : Hp} {R : It → Hp → Prop} (h : PI X tg iter t) (q : t σ H R) : wI X tg iter σ H R := ⟨fun pins s I => h.run pins s σ H R I q⟩
def DI (X : Cx) (tg iter : Expr) (δ : Dl) (xs : List PyData) : Prop := ∀ (F : Hp) (σ : L2.St) (H : Hp), Same F H → PSl X.K F δ σ → ∀ R : It → Hp → Prop, (∀ J F' H', Xt F H F' H' → Yields X.K J xs F' → R J H') → wI X tg iter σ H R
section
variable {X : Cx} {tg e a b : Expr} {δ : Dl} {xs ys : List PyData} {pos p0 : Pos} {i j : Int} {K : PySem.W.Frag}
theorem yields_list {F : Hp} {p : Addr} {vs : List V} (h : F p = some (.lst vs)) (r : Reps K F vs xs) : Yields K (Itl K p) xs F := fun i F2 H2 s1 s2 =>
  ⟨fun x hx => by
    obtain ⟨v, hv, rv⟩ := r.get hx
    exact ⟨⟨vs, v, SqL.of (s2 _ _ (s1 _ _ h)), hv⟩, fun u H3 ⟨e, k⟩ => by
      subst e
      have hu := k vs (SqL.of (s2 _ _ (s1 _ _ h)))
      rw [hv] at hu; cases hu
      exact ⟨F2, .refl s2, rv.mono s1⟩⟩, fun hl => ⟨vs, SqL.of (s2 _ _ (s1 _ _ h)), by rw [r.len]; omega⟩⟩
theorem yields_tup {F : Hp} {p : Addr} {vs : List V} (h : SqT K F p vs) (r : Reps K F vs xs) : Yields K (Itt K p) xs F := fun i F2 H2 s1 s2 =>
  ⟨fun x hx => by
    obtain ⟨v, hv, rv⟩ := r.get hx
    exact ⟨⟨vs, v, sqT_mono s2 (sqT_mono s1 h), hv⟩, fun u H3 ⟨e, k⟩ => by
      subst e
      have hu := k vs (sqT_mono s2 (sqT_mono s1 h))
      rw [hv] at hu; cases hu
      exact ⟨F2, .refl s2, rv.mono s1⟩⟩, fun hl => ⟨vs, sqT_mono s2 (sqT_mono s1 h), by rw [r.len]; omega⟩⟩
def rngD (lo : Int) (n : Nat) : List PyData := (List.range n).map fun k => .int (lo + (k : Nat))
theorem rngD_get {lo : Int} {n i : Nat} {x : PyData} (h : (rngD lo n)[i]? = some x) : i < n ∧ x = .int (lo + (i : Nat)) := by
  unfold rngD at h
  rw [List.getElem?_map] at h
  by_cases hi : i < n
  · rw [List.getElem?_range hi] at h
    cases h
    exact ⟨hi, rfl⟩
  · rw [List.getElem?_eq_none (by simpa using hi)] at h
    cases h
theorem yields_rng {F : Hp} {lo : Int} {n : Nat} : Yields K (Itr lo n) (rngD lo n) F := fun i F2 H2 s1 s2 =>
  ⟨fun x hx => by
    obtain ⟨h1, rfl⟩ := rngD_get hx
    exact ⟨h1, fun u H3 ⟨e, k⟩ => by subst e; subst k; exact ⟨F2, .refl s2, .int _⟩⟩, fun hl => by unfold rngD at hl; rw [List.length_map, List.length_range] at hl; subst hl; exact Nat.le_refl _⟩
theorem di_list (h : DP X e δ (.list xs)) : DI X tg e δ xs := fun F σ H sm sl R q =>
  wI_of (pi_list pe_star) (h F σ H sm sl _ fun v F1 H1 x1 r => by
    cases r with
    | lst h1 r1 => exact ⟨_, rfl, ⟨_, SqL.of (x1.s _ _ h1)⟩, q _ F1 H1 x1 (yields_list h1 r1)⟩)
theorem di_tup (h : DP X e δ (.tuple xs)) : DI X tg e δ xs := fun F σ H sm sl R q =>
  wI_of (pi_tup pe_star) (h F σ H sm sl _ fun v F1 H1 x1 r => by
    cases r with
    | tup h1 r1 => exact ⟨_, rfl, ⟨_, sqT_mono x1.s h1⟩, q _ F1 H1 x1 (yields_tup h1 r1)⟩)
theorem di_rng1 {n : Int} {m : Nat} (hg : Gl X "range") (hm : X.mg "range" = none) (h : DP X a δ (.int n)) (h0 : n.toNat = m) (hz : m ≤ 1000000) (h0' : -(2 ^ 62) ≤ n) (hs : starEach [a] X.env = [(false, eval a X.env)] := by rfl) : DI X tg (.Call (.Name "range" p0) [a] [] pos) δ (rngD 0 m) := fun F σ H sm sl R q =>
  wI_of (pi_range1 hg hm pa_star hs) (da_cons h da_nil hs F σ H sm sl _ fun vs F1 H1 x1 rs => by
    cases rs with
    | cons r t =>
      cases t; cases r
      refine ⟨n, rfl, h0', by omega, q _ F1 H1 x1 ?_⟩
      rw [h0]
      exact yields_rng)
theorem di_rng2 {n k : Int} {m : Nat} (hg : Gl X "range") (hm : X.mg "range" = none) (h : DP X a δ (.int k)) (h2 : DP X b δ (.int n)) (h0 : (n - k).toNat = m) (hk : 0 ≤ k ∧ k ≤ 1000000) (hn : 0 ≤ n ∧ n ≤ 1000000) (hs : starEach [a, b] X.env = [(false, eval a X.env), (false, eval b X.env)] := by rfl) (hs2 : starEach [b] X.env = [(false, eval b X.env)] := by rfl) : DI X tg (.Call (.Name "range" p0) [a, b] [] pos) δ (rngD k m) := fun F σ H sm sl R q =>
  wI_of (pi_range2 hg hm pa_star hs hs2) (da_cons h (da_cons h2 da_nil hs2) (by rw [hs, hs2]) F σ H sm sl _ fun vs F1 H1 x1 rs => by
    cases rs with
    | cons r t =>
      cases r
      cases t with
      | cons r t =>
        cases r; cases t
        refine ⟨k, n, rfl, by omega, q _ F1 H1 x1 ?_⟩
        rw [h0]
        exact yields_rng)
theorem di_str {z : Str} (h : DP X e δ (.str z)) : DI X tg e δ (z.cps.toList.map fun c => .str ⟨#[c]⟩) := fun F σ H sm sl R q =>
  wI_of (pi_str pe_star) (h F σ H sm sl _ fun v F1 H1 x1 r => by
    cases r
    refine ⟨z, rfl, q _ F1 H1 x1 fun i F2 H2 s1 s2 => ⟨fun x hx => ?_, fun hl => by rw [List.length_map, Array.length_toList] at hl; subst hl; exact Nat.le_refl _⟩⟩
    rw [List.getElem?_map] at hx
    cases e1 : z.cps.toList[i]? with
    | none => rw [e1] at hx; cases hx
    | some c =>
      rw [e1] at hx
      cases hx
      have e2 : z.cps[i]? = some c := by simpa using e1
      have hlt : i < z.cps.size := by
        rcases Nat.lt_or_ge i z.cps.size with q | q
        · exact q
        · rw [Array.getElem?_eq_none q] at e2; cases e2
      refine ⟨hlt, fun v H3 ⟨e, c', k1, k2⟩ => ?_⟩
      subst e
      rw [e2] at k1; cases k1
      subst k2
      exact ⟨F2, .refl s2, .str _⟩)
theorem di_enum {es : List Expr} {k : Nat} {tp : Pos} (hg : Gl X "enumerate") (hm : X.mg "enumerate" = none) (h : DP X e δ (.list xs)) (hs : starEach [e] X.env = [(false, eval e X.env)] := by rfl) : DI X (.Tuple es k tp) (.Call (.Name "enumerate" p0) [e] [] pos) δ (xs.zipIdx.map fun p => .tuple [.int (p.2 : Nat), p.1]) := fun F σ H sm sl R q =>
  wI_of (pi_enum hg hm pa_star hs) (da_cons h da_nil hs F σ H sm sl _ fun vs F1 H1 x1 rs => by
    cases rs with
    | cons r t =>
      cases t
      cases r with
      | @lst p vs1 _ h1 r1 =>
        refine ⟨p, vs1, rfl, SqL.of (x1.s _ _ h1), q _ F1 H1 x1 fun i F2 H2 s1 s2 => ⟨fun x hx => ?_, fun hl => ⟨vs1, SqL.of (s2 _ _ (s1 _ _ h1)), by rw [r1.len]; simp at hl; omega⟩⟩⟩
        rw [List.getElem?_map, List.getElem?_zipIdx] at hx
        cases e1 : xs[i]? with
        | none => rw [e1] at hx; cases hx
        | some y =>
          rw [e1] at hx
          cases hx
          obtain ⟨v, hv, rv⟩ := r1.get e1
          refine ⟨⟨vs1, v, SqL.of (s2 _ _ (s1 _ _ h1)), hv⟩, fun u H3 ⟨T, x, e2, nT, e3, k1⟩ => ?_⟩
          subst e2; subst e3
          have hu := k1 vs1 (SqL.of (s2 _ _ (s1 _ _ h1)))
          rw [hv] at hu; cases hu
          have xt := Xt.new (o := .tup [.int (i : Nat), v]) s2 nT
          refine ⟨_, xt, .tup (SqT.of upd_same) (.cons ?_ (.cons ((rv.mono s1).mono xt.f) .nil))⟩
          simpa using Rep.int (K := X.K) (F := upd F2 T (.tup [.int (i : Nat), v])) ((i : Nat) : Int))
end
end SS
set_option maxHeartbeats 4000000
/-! The data layer, four: comprehensions; calls of defs by their promises on data. -/
namespace SS
open PySem PySem.Spec PyProof.Rows L2

/-! ### comprehensions -/
def wTs (X : Cx) (ifs : List Expr) : TT := fun σ H Q => Hd (∀ (pins : List (Addr × Obj)) (s : Shared), Inv X pins σ H s →
    wpAny (model X.prog X.w) X.A (forIn ifs true fun c r => if r = true then do let ok ← isTrue c X.env (eval c X.env); pure (ForInStep.yield ok) else pure (ForInStep.yield r)) (TP X pins σ Q) X.xe s)
theorem pts_star {X : Cx} {ifs : List Expr} : PTs X ifs (wTs X ifs) := ⟨fun pins s σ H Q I h => h.un pins s I⟩
theorem wTs_of {X : Cx} {ifs : List Expr} {t : TT} {σ : L2.St} {H : Hp} {Q : Bool → Hp → Prop} (h : PTs X ifs t) (q : t σ H Q) : wTs X ifs σ H Q := ⟨fun pins s I => h.run pins s σ H Q I q⟩
def DTs (X : Cx) (ifs : List Expr) (δ : Dl) (b : Bool) : Prop := ∀ (F : Hp) (σ : L2.St) (H : Hp), Same F H → PSl X.K F δ σ → ∀ Q : Bool → Hp → Prop, (∀ F' H', Xt F H F' H' → Q b H') → wTs X ifs σ H Q
theorem dts_nil {X : Cx} {δ : Dl} : DTs X [] δ true := fun F σ H sm sl Q q => wTs_of pts_nil (q F H (.refl sm))
theorem dts_one {X : Cx} {δ : Dl} {c : Expr} {b : Bool} (h : DT X c δ b) : DTs X [c] δ b := fun F σ H sm sl Q q => wTs_of (pts_one pt_star) (h F σ H sm sl Q q)

abbrev Blk (X : Cx) (scope : Scope) (Y : Cx → Prop) : Prop := ∀ (s : Shared) (H : Hp) (C : Addr) (cl : List (Str × Addr)) (fp : List Addr), Y (X.blk s H scope (compEnvC scope cl C X.env) fp)
def bE (X : Cx) (scope : Scope) (e : Expr) : TE := fun σ H Q => Blk X scope fun Y => wE Y e σ H Q
def bG (X : Cx) (scope : Scope) (e : Expr) : TG := fun v σ H Q => Blk X scope fun Y => wG Y e v σ H Q
def bTs (X : Cx) (scope : Scope) (e : List Expr) : TT := fun σ H Q => Blk X scope fun Y => wTs Y e σ H Q
section
variable {X : Cx} {scope : Scope} {e : Expr} {es : List Expr}
theorem pe_blk (s : Shared) (H : Hp) (C : Addr) (cl : List (Str × Addr)) (fp : List Addr) : PE (X.blk s H scope (compEnvC scope cl C X.env) fp) e (bE X scope e) := ⟨fun pins s' σ H' Q I h => (h s H C cl fp).un pins s' I⟩
theorem pg_blk (s : Shared) (H : Hp) (C : Addr) (cl : List (Str × Addr)) (fp : List Addr) : PG (X.blk s H scope (compEnvC scope cl C X.env) fp) e (bG X scope e) := ⟨fun pins s' σ H' v u Q I r h => (h s H C cl fp).un pins s' u I r⟩
theorem pts_blk (s : Shared) (H : Hp) (C : Addr) (cl : List (Str × Addr)) (fp : List Addr) : PTs (X.blk s H scope (compEnvC scope cl C X.env) fp) es (bTs X scope es) := ⟨fun pins s' σ H' Q I h => (h s H C cl fp).un pins s' I⟩
end
/-- a reading that gives a new list that nobody else knows -/
def DFt (K : PySem.W.Frag) (te : TE) (δ : Dl) (ds : List PyData) : Prop := ∀ (F : Hp) (σ : L2.St) (H : Hp), Same F H → PSl K F δ σ → ∀ Q : VK, (∀ p vs F' H', Xt F H F' H' → F' p = none → H p = none → H' p = some (.lst vs) → Reps K F' vs ds → Q (.ref p) H') → te σ H Q
abbrev DF (X : Cx) (e : Expr) (δ : Dl) (ds : List PyData) : Prop := DFt X.K (wE X e) δ ds
theorem fresh_xt {K : PySem.W.Frag} {F H F' H' : Hp} {p : Addr} {vs : List V} {ds : List PyData} (x : Xt F H F' H') (n1 : F' p = none) (n2 : H p = none) (hl : H' p = some (.lst vs)) (r : Reps K F' vs ds) : Xt F H (upd F' p (.lst vs)) H' ∧ Rep K (upd F' p (.lst vs)) (.ref p) (.list ds) :=
  ⟨⟨x.f.trans (same_new n1), x.h, fun b o e => by
    by_cases hb : b = p
    · subst hb; rw [upd_same] at e; cases e; exact hl
    · rw [upd_ne hb] at e; exact x.s _ _ e, fun b o e => by
    by_cases hb : b = p
    · subst hb; exact .inr n2
    · rw [upd_ne hb] at e; exact x.n b o e⟩, .lst upd_same (r.mono (same_new n1))⟩
theorem DF.dp {X : Cx} {e : Expr} {δ : Dl} {ds : List PyData} (h : DF X e δ ds) : DP X e δ (.list ds) := fun F σ H sm sl Q q => h F σ H sm sl Q fun p vs F' H' x n1 n2 hl r =>
  let ⟨a, b⟩ := fresh_xt x n1 n2 hl r
  q _ _ H' a b
/-- while a list at D is being made -/
structure XtD (D : Addr) (F1 H1 F2 H2 : Hp) : Prop where
  f : Same F1 F2
  s : Same F2 H2
  h : Same H1 H2
  n : ∀ a o, F2 a = some o → F1 a = some o ∨ H1 a = none
  nd : F2 D = none
section
variable {X : Cx} {δ : Dl} {elt tg iter : Expr} {ifs : List Expr} {scope : Scope} {own : List (Str × Nat)} {pos : Pos} {α : Type} {as : List α} {enc f : α → PyData} {ps : α → List (Nat × PyData)} {p : α → Bool}
/-- the loop of a comprehension, by data -/
theorem lc_data (hi : DI X tg iter δ (as.map enc))
    (hg : ∀ a ∈ as, Blk X scope fun Y => DG Y tg (enc a) (ps a)) (hp : ∀ a ∈ as, ∀ q ∈ ps a, q.1 ∈ own.map (·.2))
    (ht : ∀ a ∈ as, Blk X scope fun Y => DTs Y ifs (setD (ps a) (wipeD δ (own.map (·.2)))) (p a))
    (he : ∀ a ∈ as, p a = true → Blk X scope fun Y => DP Y elt (setD (ps a) (wipeD δ (own.map (·.2)))) (f a)) (hz : as.length ≤ 1000000) :
    DFt X.K (tLc (wI X tg iter) (bG X scope tg) (bTs X scope ifs) (bE X scope elt) (own.map (·.2))) δ ((as.filter p).map f) := by
  intro F σ H sm sl Q q
  have hsz : ∀ n : Nat, n ≤ 1000000 → n < sizeLine := fun n h => Nat.lt_of_le_of_lt h (by decide)
  refine hi F σ H sm sl _ fun J F1 H1 x1 y => ?_
  intro D hD
  have fD : F1 D = none := x1.s.free hD
  refine ⟨fun i m H2 => m = as.length - i ∧ i ≤ as.length ∧ ∃ F2 vs, XtD D F1 H1 F2 H2 ∧ H2 D = some (.lst vs) ∧ Reps X.K F2 vs (((as.take i).filter p).map f), ⟨as.length, by simp, Nat.zero_le _, F1, [], ?_, upd_same, .nil⟩, ?_⟩
  · refine ⟨.refl _, fun a o e => ?_, fun a o e => ?_, fun a o e => .inl e, fD⟩
    · rw [upd_ne (ne_of_none e fD)]; exact x1.s _ _ e
    · rw [upd_ne (ne_of_none e hD)]; exact e
  · rintro i m H2 ⟨rfl, hle, F2, vs, xd, hl, rs⟩
    obtain ⟨y1, y2⟩ := y i F2 H2 xd.f xd.s
    by_cases hlt : i < as.length
    · have ha : as[i]? = some as[i] := List.getElem?_eq_getElem hlt
      have hm : as[i] ∈ as := List.getElem_mem hlt
      obtain ⟨g1, g2⟩ := y1 (enc as[i]) (by rw [List.getElem?_map, ha]; rfl)
      have htk : (as.take (i + 1)).filter p = (as.take i).filter p ++ (if p as[i] then [as[i]] else []) := by
        rw [List.take_add_one, ha, List.filter_append]
        show _ ++ [as[i]].filter p = _
        by_cases hb : p as[i] = true
        · rw [if_pos hb, List.filter_cons_of_pos hb]; rfl
        · rw [if_neg hb, List.filter_cons_of_neg hb]; rfl
      refine .inr ⟨g1, fun H' => i + 1 ≤ as.length ∧ ∃ F2 vs, XtD D F1 H1 F2 H' ∧ H' D = some (.lst vs) ∧ Reps X.K F2 vs (((as.take (i + 1)).filter p).map f), fun H' h => ⟨as.length - (i + 1), by omega, rfl, h.1, h.2⟩, fun v H3 hy => ?_⟩
      obtain ⟨F3, x3, rv⟩ := g2 v H3 hy
      have nD3 : F3 D = none := by
        cases e : F3 D with
        | none => rfl
        | some o => rcases x3.n D o e with z | z
                    · rw [xd.nd] at z; cases z
                    · rw [hl] at z; cases z
      have xd3 : XtD D F1 H1 F3 H3 := ⟨xd.f.trans x3.f, x3.s, xd.h.trans x3.h, fun a o e => by
        rcases x3.n a o e with z | z
        · exact xd.n a o z
        · exact .inr (xd.h.free z), nD3⟩
      have hl3 : H3 D = some (.lst vs) := x3.h _ _ hl
      intro s H0 C cl fp
      refine hg _ hm s H0 C cl fp F3 _ H3 v x3.s rv _ fun us ru => ⟨(setV_wipe fun k hk => ?_).trans (wipe_wipe _ _), ?_⟩
      · obtain ⟨q', hq', e⟩ := List.mem_map.mp hk
        rw [← e]
        exact hp _ hm q' hq'
      have sl3 : PSl X.K F3 (setD (ps as[i]) (wipeD δ (own.map (·.2)))) (setV ((ps as[i]).map (·.1)) us (L2.wipe σ (own.map (·.2)))) := (((sl.mono x1.f).mono xd3.f).wipe _).sets ru
      intro s H0 C cl fp
      refine ht _ hm s H0 C cl fp F3 _ H3 x3.s sl3 _ fun F4 H4 x4 => ?_
      have nD4 : F4 D = none := by
        cases e : F4 D with
        | none => rfl
        | some o => rcases x4.n D o e with z | z
                    · rw [nD3] at z; cases z
                    · rw [hl3] at z; cases z
      have xd4 : XtD D F1 H1 F4 H4 := ⟨xd3.f.trans x4.f, x4.s, xd3.h.trans x4.h, fun a o e => by
        rcases x4.n a o e with z | z
        · exact xd3.n a o z
        · exact .inr (xd3.h.free z), nD4⟩
      have hl4 : H4 D = some (.lst vs) := x4.h _ _ hl3
      have rs4 := (rs.mono x3.f).mono x4.f
      by_cases hb : p as[i] = true
      · rw [if_pos hb]
        intro s H0 C cl fp
        refine he _ hm hb s H0 C cl fp F4 _ H4 x4.s (sl3.mono x4.f) _ fun w F5 H5 x5 rw' => ?_
        have nD5 : F5 D = none := by
          cases e : F5 D with
          | none => rfl
          | some o => rcases x5.n D o e with z | z
                      · rw [nD4] at z; cases z
                      · rw [hl4] at z; cases z
        have hl5 : H5 D = some (.lst vs) := x5.h _ _ hl4
        have lv : vs.length ≤ as.length := by
          rw [rs.len, List.length_map]
          exact Nat.le_trans (List.length_filter_le _ _) (by rw [List.length_take]; exact Nat.min_le_right _ _)
        refine ⟨vs, hl5, hsz _ (Nat.le_trans lv hz), hlt, F5, vs ++ [w], ⟨xd4.f.trans x5.f, fun a o e => ?_, fun a o e => ?_, fun a o e => ?_, nD5⟩, upd_same, ?_⟩
        · rw [upd_ne (ne_of_none e nD5)]; exact x5.s _ _ e
        · rw [upd_ne (ne_of_none e hD)]; exact x5.h _ _ (xd4.h _ _ e)
        · rcases x5.n a o e with z | z
          · exact xd4.n a o z
          · exact .inr (xd4.h.free z)
        · rw [htk, if_pos hb, List.map_append]
          exact (rs4.mono x5.f).append (.cons rw' .nil)
      · rw [if_neg hb]
        refine ⟨hlt, F4, vs, xd4, hl4, ?_⟩
        rw [htk, if_neg hb, List.append_nil]
        exact rs4
    · have ei : i = as.length := by omega
      subst ei
      rw [List.take_length] at rs
      refine .inl ⟨y2 (by rw [List.length_map]), q D vs F2 H2 ⟨x1.f.trans xd.f, x1.h.trans xd.h, xd.s, fun a o e => ?_⟩ xd.nd (x1.h.free hD) hl rs⟩
      rcases xd.n a o e with z | z
      · exact x1.n a o z
      · exact .inr (x1.h.free z)
theorem df_lcf {r : List PyData} (hc : X.calm = true) (hN : X.N.Nodup) (hi : DI X tg iter δ (as.map enc)) (ok : BlkOk X.N X.env.scope scope own)
    (hg : ∀ a ∈ as, Blk X scope fun Y => DG Y tg (enc a) (ps a)) (hp : ∀ a ∈ as, ∀ q ∈ ps a, q.1 ∈ own.map (·.2))
    (ht : ∀ a ∈ as, Blk X scope fun Y => DTs Y ifs (setD (ps a) (wipeD δ (own.map (·.2)))) (p a))
    (he : ∀ a ∈ as, p a = true → Blk X scope fun Y => DP Y elt (setD (ps a) (wipeD δ (own.map (·.2)))) (f a)) (hz : as.length ≤ 1000000) (hr : (as.filter p).map f = r) (hs : ∀ x, foldedSetIterable iter X.env x = pure x := by intro _; rfl) :
    DF X (.ListComp elt [⟨tg, iter, ifs, 0⟩] scope pos) δ r := fun F σ H sm sl Q q => by
  subst hr
  exact wE_of (pe_lc hc hN pi_star ok pg_blk pts_blk pe_blk hs) (lc_data hi hg hp ht he hz F σ H sm sl Q q)
theorem df_lc {r : List PyData} (hc : X.calm = true) (hN : X.N.Nodup) (hi : DI X tg iter δ (as.map enc)) (ok : BlkOk X.N X.env.scope scope own)
    (hg : ∀ a ∈ as, Blk X scope fun Y => DG Y tg (enc a) (ps a)) (hp : ∀ a ∈ as, ∀ q ∈ ps a, q.1 ∈ own.map (·.2))
    (he : ∀ a ∈ as, Blk X scope fun Y => DP Y elt (setD (ps a) (wipeD δ (own.map (·.2)))) (f a)) (hz : as.length ≤ 1000000) (hr : as.map f = r) (hs : ∀ x, foldedSetIterable iter X.env x = pure x := by intro _; rfl) :
    DF X (.ListComp elt [⟨tg, iter, [], 0⟩] scope pos) δ r :=
  df_lcf (p := fun _ => true) hc hN hi ok hg hp (fun _ _ _ _ _ _ _ => dts_nil) (fun a h _ => he a h) hz (by rw [← hr]; congr 1; exact List.filter_eq_self.mpr fun _ _ => rfl) hs
end

/-! ### promises on data -/
/-- called on ds with R ds d it gives d, new data at most made -/
def spP (K : PySem.W.Frag) (R : List PyData → PyData → Prop) : Sp := fun vs H Q _ => ∃ (F : Hp) (ds : List PyData) (d : PyData), R ds d ∧ Same F H ∧ Reps K F vs ds ∧ ∀ v F' H', Xt F H F' H' → Rep K F' v d → Q v H'
structure Cal (P : Program) (w : World) (K : PySem.W.Frag) (mg : Str → Option Value) (base : Heap) (x : Str) (k : Nat) (ps : List Str) (sp : Sp) : Prop where
  ex : ∃ (f : Addr) (fd : FuncData), FnOk P w K mg base CX0 k f fd ps sp ∧ mg x = some (.ref f) ∧ PySem.W.keepIn K (.ref f) = true ∧ Binds K fd ps []
section
variable {X : Cx} {x : Str} {k : Nat} {ps : List Str} {R : List PyData → PyData → Prop} {δ : Dl} {e : Expr} {es : List Expr} {ds : List PyData} {d : PyData} {p0 pos : Pos}
theorem dp_call (c : Cal X.prog X.w X.K X.mg X.base x k ps (spP X.K R)) (hr : Room k X.A) (hg : Gl X x) (ha : DA X (e :: es) δ ds) (hR : R ds d) (hdb : (x == ("__debug__" : Str)) = false := by decide) (he : starEach (e :: es) X.env = (false, eval e X.env) :: starEach es X.env := by rfl)
    (hpl : (backTo pos (starEach es X.env)).any (·.1) = false := by rfl) : DP X (.Call (.Name x p0) (e :: es) [] pos) δ d := fun F σ H sm sl Q q => by
  obtain ⟨f, fd, G, hm, hk, hb⟩ := c.ex
  refine wE_of (pe_call G hr hg hm hk hb .nil pass0 pa_star hdb he hpl) (ha F σ H sm sl _ fun vs F1 H1 x1 rs => ?_)
  rw [List.append_nil]
  exact ⟨F1, ds, d, hR, x1.s, rs, fun v F2 H2 x2 rv => q v F2 H2 (x1.trans x2) rv⟩
end
theorem Cal.imp {P : Program} {w : World} {K : PySem.W.Frag} {mg : Str → Option Value} {base : Heap} {x : Str} {k : Nat} {ps : List Str} {R R' : List PyData → PyData → Prop} (c : Cal P w K mg base x k ps (spP K R)) (h : ∀ ds d, R' ds d → R ds d) : Cal P w K mg base x k ps (spP K R') :=
  let ⟨f, fd, G, a, b, e⟩ := c.ex
  ⟨f, fd, G.imp fun vs H Q E ⟨F, ds, d, r, z⟩ => ⟨F, ds, d, h ds d r, z⟩, a, b, e⟩
theorem Cal.mono {P : Program} {w : World} {K : PySem.W.Frag} {mg : Str → Option Value} {base : Heap} {x : Str} {k j : Nat} {ps : List Str} {sp : Sp} (c : Cal P w K mg base x k ps sp) (h : k ≤ j) : Cal P w K mg base x j ps sp :=
  let ⟨f, fd, G, a, b, e⟩ := c.ex
  ⟨f, fd, G.mono h, a, b, e⟩
end SS
set_option maxHeartbeats 4000000
/-! The data layer, five: states with owned objects (lists, dicts, instances that change), expressions over them. -/
namespace SS
open PySem PySem.Spec PyProof.Rows L2

/-- what a slot holds: data for good, the k-th owned object, a value as it is, nothing known -/
inductive SV where
  | dat (d : PyData) | ptr (k : Nat) | raw (v : V) | un
/-- an owned object -/
inductive Ow where
  | lst (xs : List SV) | dT (kvs : List (List Key × SV)) | dK (kvs : List (Key × SV)) | ins (C : Addr) (fs : List (Str × SV)) | dead
abbrev Rs := List Ow
def RepV (K : PySem.W.Frag) (F : Hp) (A : List Addr) : SV → V → Prop
  | .dat d, v => Rep K F v d
  | .ptr k, v => ∃ a, A[k]? = some a ∧ v = .ref a
  | .raw u, v => v = u
  | .un, _ => False
abbrev RepVs (K : PySem.W.Frag) (F : Hp) (A : List Addr) : List SV → List V → Prop := Paired (RepV K F A)
def RepR (K : PySem.W.Frag) (F : Hp) (A : List Addr) (H : Hp) : Ow → Addr → Prop
  | .lst xs, a => ∃ vs, H a = some (.lst vs) ∧ RepVs K F A xs vs
  | .dT kvs, a => ∃ kv, H a = some (.dT kv) ∧ Paired (fun (p : List Key × SV) (q : List Key × V) => p.1 = q.1 ∧ RepV K F A p.2 q.2) kvs kv
  | .dK kvs, a => ∃ kv, H a = some (.dK kv) ∧ Paired (fun (p : Key × SV) (q : Key × V) => p.1 = q.1 ∧ RepV K F A p.2 q.2) kvs kv
  | .ins C fs, a => ∃ dx fv, H a = some (.ins C dx fv) ∧ Paired (fun (p : Str × SV) (q : Str × V) => p.1 = q.1 ∧ RepV K F A p.2 q.2) fs fv
  | .dead, a => ∃ o, F a = some o
structure SR (K : PySem.W.Frag) (ρ : List SV) (O : Rs) (F : Hp) (A : List Addr) (σ : L2.St) (H : Hp) : Prop where
  ex : Same F H
  own : ∀ (k : Nat) (a : Addr) (c : Ow), A[k]? = some a → O[k]? = some c → c ≠ .dead → F a = none
  nd : A.Nodup
  len : A.length = O.length
  res : ∀ (k : Nat) (a : Addr) (c : Ow), A[k]? = some a → O[k]? = some c → RepR K F A H c a
  sl : ρ.length = σ.length
  get : ∀ (i : Nat) (sv : SV), ρ[i]? = some sv → sv ≠ .un → ∃ v, σ[i]? = some (some v) ∧ RepV K F A sv v
structure Xs (F : Hp) (A : List Addr) (H : Hp) (F' : Hp) (A' : List Addr) (H' : Hp) : Prop where
  f : Same F F'
  n : ∀ a o, F' a = some o → F a = some o ∨ H a = none ∨ a ∈ A
  k : ∀ a o, H a = some o → a ∉ A → H' a = some o
  d : ∀ a, H' a = none → H a = none
  p : ∃ B : List Addr, A' = A ++ B ∧ ∀ b ∈ B, H b = none
section
variable {K : PySem.W.Frag} {F F' F1 F2 : Hp} {A A' A1 A2 : List Addr} {H H' H1 H2 : Hp} {sv : SV} {v : V} {ρ : List SV} {O O' : Rs} {σ : L2.St} {k : Nat} {a : Addr} {c : Ow}
theorem Xs.refl : Xs F A H F A H := ⟨.refl _, fun _ _ h => .inl h, fun _ _ h _ => h, fun _ h => h, [], by simp, by simp⟩
theorem Xs.trans (x : Xs F A H F1 A1 H1) (y : Xs F1 A1 H1 F2 A2 H2) : Xs F A H F2 A2 H2 := by
  obtain ⟨B, rfl, hB⟩ := x.p
  obtain ⟨B2, rfl, hB2⟩ := y.p
  refine ⟨x.f.trans y.f, fun a o e => ?_, fun a o e hn => ?_, fun a e => x.d a (y.d a e), B ++ B2, by simp, fun b hb => ?_⟩
  · rcases y.n a o e with q | q | q
    · exact x.n a o q
    · exact .inr (.inl (x.d a q))
    · rcases List.mem_append.mp q with q | q
      · exact .inr (.inr q)
      · exact .inr (.inl (hB a q))
  · refine y.k a o (x.k a o e hn) fun q => ?_
    rcases List.mem_append.mp q with q | q
    · exact hn q
    · rw [hB a q] at e; cases e
  · rcases List.mem_append.mp hb with q | q
    · exact hB b q
    · exact x.d b (hB2 b q)
theorem pairedMap {α β : Type} {P Q : α → β → Prop} (h : ∀ a b, P a b → Q a b) : ∀ {xs : List α} {ys : List β}, Paired P xs ys → Paired Q xs ys
  | _, _, .nil => .nil
  | _, _, .cons r t => .cons (h _ _ r) (pairedMap h t)
theorem preGet {B : List Addr} (h : A[k]? = some a) : (A ++ B)[k]? = some a := by
  have hl : k < A.length := by
    rcases Nat.lt_or_ge k A.length with q | q
    · exact q
    · rw [List.getElem?_eq_none q] at h; cases h
  rw [List.getElem?_append_left hl]; exact h
theorem RepV.mono {B : List Addr} (e : Same F F') (h : RepV K F A sv v) : RepV K F' (A ++ B) sv v := by
  cases sv with
  | dat d => exact Rep.mono e h
  | ptr k => obtain ⟨a, h1, h2⟩ := h; exact ⟨a, preGet h1, h2⟩
  | raw u => exact h
  | un => exact h
theorem RepV.xs (x : Xs F A H F' A' H') (h : RepV K F A sv v) : RepV K F' A' sv v := by obtain ⟨B, rfl, _⟩ := x.p; exact h.mono x.f
theorem RepVs.xs {vs : List V} {svs : List SV} (x : Xs F A H F' A' H') (h : RepVs K F A svs vs) : RepVs K F' A' svs vs := pairedMap (fun _ _ r => RepV.xs x r) h
theorem RepR.mono {B : List Addr} (e : Same F F') (hh : ∀ o, H a = some o → H' a = some o) (h : RepR K F A H c a) : RepR K F' (A ++ B) H' c a := by
  cases c with
  | lst xs => obtain ⟨vs, h1, h2⟩ := h; exact ⟨vs, hh _ h1, pairedMap (fun _ _ r => RepV.mono e r) h2⟩
  | dT xs => obtain ⟨vs, h1, h2⟩ := h; exact ⟨vs, hh _ h1, pairedMap (fun _ _ r => ⟨r.1, RepV.mono e r.2⟩) h2⟩
  | dK xs => obtain ⟨vs, h1, h2⟩ := h; exact ⟨vs, hh _ h1, pairedMap (fun _ _ r => ⟨r.1, RepV.mono e r.2⟩) h2⟩
  | ins C xs => obtain ⟨dx, vs, h1, h2⟩ := h; exact ⟨dx, vs, hh _ h1, pairedMap (fun _ _ r => ⟨r.1, RepV.mono e r.2⟩) h2⟩
  | dead => obtain ⟨o, q⟩ := h; exact ⟨o, e _ _ q⟩
theorem RepR.there (h : RepR K F A H c a) (hc : c ≠ .dead) : ∃ o, H a = some o ∧ (∀ xs, o ≠ .tup xs) ∧ ∀ ob u, o ≠ .frz ob u := by
  cases c with
  | lst xs => obtain ⟨vs, h1, h2⟩ := h; exact ⟨_, h1, (fun _ q => nomatch q), (fun _ _ q => nomatch q)⟩
  | dT xs => obtain ⟨vs, h1, h2⟩ := h; exact ⟨_, h1, (fun _ q => nomatch q), (fun _ _ q => nomatch q)⟩
  | dK xs => obtain ⟨vs, h1, h2⟩ := h; exact ⟨_, h1, (fun _ q => nomatch q), (fun _ _ q => nomatch q)⟩
  | ins C xs => obtain ⟨dx, vs, h1, h2⟩ := h; exact ⟨_, h1, (fun _ q => nomatch q), (fun _ _ q => nomatch q)⟩
  | dead => exact absurd rfl hc
theorem SR.addr (s : SR K ρ O F A σ H) (h : O[k]? = some c) : ∃ a, A[k]? = some a := by
  have hl : k < O.length := by
    rcases Nat.lt_or_ge k O.length with q | q
    · exact q
    · rw [List.getElem?_eq_none q] at h; cases h
  exact ⟨_, List.getElem?_eq_getElem (by rw [s.len]; exact hl)⟩
theorem SR.at (s : SR K ρ O F A σ H) (h : O[k]? = some c) (ha : A[k]? = some a) : RepR K F A H c a := s.res k a c ha h
/-- the step of pure data -/
theorem SR.pure (s : SR K ρ O F A σ H) (x : Xt F H F' H') : SR K ρ O F' A σ H' where
  ex := x.s
  own := fun k a c h1 h2 h3 => by
    cases e : F' a with
    | none => rfl
    | some o =>
      rcases x.n a o e with q | q
      · rw [s.own k a c h1 h2 h3] at q; cases q
      · obtain ⟨o', ho, _⟩ := (s.res k a c h1 h2).there h3
        rw [ho] at q; cases q
  nd := s.nd
  len := s.len
  res := fun k a c h1 h2 => by
    have := (s.res k a c h1 h2).mono (B := []) x.f (H' := H') fun o e => x.h a o e
    rwa [List.append_nil] at this
  sl := s.sl
  get := fun i sv h1 h2 => by
    obtain ⟨v, e, r⟩ := s.get i sv h1 h2
    have := r.mono (B := []) x.f
    rw [List.append_nil] at this
    exact ⟨v, e, this⟩
theorem Xs.pure (x : Xt F H F' H') : Xs F A H F' A H' := ⟨x.f, fun a o e => (x.n a o e).imp id .inl, fun a o e _ => x.h a o e, fun a e => x.h.free e, [], by simp, by simp⟩
theorem SR.set {i : Nat} (s : SR K ρ O F A σ H) (r : RepV K F A sv v) : SR K (ρ.set i sv) O F A (σ.set i (some v)) H where
  ex := s.ex
  own := s.own
  nd := s.nd
  len := s.len
  res := s.res
  sl := by simpa using s.sl
  get := fun j u h1 h2 => by
    by_cases hj : i = j
    · subst hj
      by_cases hl : i < ρ.length
      · rw [List.getElem?_set_self hl] at h1
        cases h1
        exact ⟨v, List.getElem?_set_self (by rw [← s.sl]; exact hl), r⟩
      · rw [List.getElem?_eq_none (by simpa using hl)] at h1; cases h1
    · rw [List.getElem?_set_ne hj] at h1
      obtain ⟨w, a, b⟩ := s.get j u h1 h2
      exact ⟨w, by rw [List.getElem?_set_ne hj]; exact a, b⟩
theorem SR.slots {ρ' : List SV} {σ' : L2.St} (s : SR K ρ O F A σ H) (hl : ρ'.length = σ'.length) (hg : ∀ (i : Nat) (sv : SV), ρ'[i]? = some sv → sv ≠ .un → ∃ v, σ'[i]? = some (some v) ∧ RepV K F A sv v) : SR K ρ' O F A σ' H := ⟨s.ex, s.own, s.nd, s.len, s.res, hl, hg⟩
theorem SR.no (s : SR K ρ O F A σ H) : SR K [] O F A [] H := s.slots rfl fun i sv h => by simp at h
theorem SR.nil (h : Same F H) : SR K [] [] F [] [] H := ⟨h, fun k a c h1 => by simp at h1, .nil, rfl, fun k a c h1 => by simp at h1, rfl, fun i sv h => by simp at h⟩
/-- slots behind a change of the objects -/
theorem SR.back (s : SR K ρ O F A σ H) (x : Xs F A H F' A' H') (s' : SR K [] O' F' A' [] H') : SR K ρ O' F' A' σ H' := s'.slots s.sl fun i sv h1 h2 => let ⟨v, e, r⟩ := s.get i sv h1 h2; ⟨v, e, r.xs x⟩
/-- fewer slots known -/
theorem SR.forget {ρ' : List SV} (s : SR K ρ O F A σ H) (hl : ρ'.length = ρ.length) (h : ∀ (i : Nat) (sv : SV), ρ'[i]? = some sv → sv ≠ .un → ρ[i]? = some sv) : SR K ρ' O F A σ H := s.slots (hl.trans s.sl) fun i sv h1 h2 => s.get i sv (h i sv h1 h2) h2
/-- an owned object written -/
theorem SR.write {o : HO} (s : SR K ρ O F A σ H) (ha : A[k]? = some a) (hk : k < O.length) (hc : O[k]? ≠ some .dead) (new : RepR K F A (upd H a o) c a) : SR K ρ (O.set k c) F A σ (upd H a o) := by
  have ne : ∀ (j : Nat) (b : Addr), A[j]? = some b → j ≠ k → b ≠ a := fun j b h1 h2 e => by
    subst e
    obtain ⟨l1, e1⟩ := List.getElem?_eq_some_iff.mp h1
    obtain ⟨l2, e2⟩ := List.getElem?_eq_some_iff.mp ha
    exact h2 ((List.getElem_inj s.nd).mp (e1.trans e2.symm))
  have hF : F a = none := by
    have : O[k]? = some O[k] := List.getElem?_eq_getElem hk
    exact s.own k a _ ha this fun q => hc (by rw [this, q])
  refine ⟨fun b u e => ?_, fun j b c' h1 h2 h3 => ?_, s.nd, by simpa using s.len, fun j b c' h1 h2 => ?_, s.sl, s.get⟩
  · rw [upd_ne (ne_of_none e hF)]; exact s.ex _ _ e
  · by_cases hj : j = k
    · subst hj; rw [ha] at h1; cases h1; exact hF
    · rw [List.getElem?_set_ne (Ne.symm hj)] at h2; exact s.own j b c' h1 h2 h3
  · by_cases hj : j = k
    · subst hj; rw [ha] at h1; cases h1
      rw [List.getElem?_set_self hk] at h2; cases h2
      exact new
    · rw [List.getElem?_set_ne (Ne.symm hj)] at h2
      have := (s.res j b c' h1 h2).mono (B := []) (.refl F) (H' := upd H a o) fun u e => by rw [upd_ne (ne j b h1 hj)]; exact e
      rwa [List.append_nil] at this
theorem Xs.write {o : HO} (ha : A[k]? = some a) : Xs F A H F A (upd H a o) := by
  refine ⟨.refl _, fun _ _ e => .inl e, fun b u e hb => ?_, fun b e => ?_, [], by simp, by simp⟩
  · rw [upd_ne (show b ≠ a from fun z => hb (by rw [z]; exact List.mem_of_getElem? ha))]; exact e
  · by_cases hb : b = a
    · subst hb; rw [upd_same] at e; cases e
    · rw [upd_ne hb] at e; exact e
theorem SR.tracked (s : SR K ρ O F A σ H) (h : a ∈ A) : ∃ o, H a = some o := by
  obtain ⟨j, hj, e⟩ := List.mem_iff_getElem.mp h
  have h1 : A[j]? = some a := by rw [List.getElem?_eq_getElem hj, e]
  have h2 : O[j]? = some (O[j]'(by rw [← s.len]; exact hj)) := List.getElem?_eq_getElem _
  have h3 := s.res j a _ h1 h2
  by_cases hd : O[j]'(by rw [← s.len]; exact hj) = .dead
  · rw [hd] at h3
    obtain ⟨o, q⟩ := h3
    exact ⟨o, s.ex _ _ q⟩
  · obtain ⟨o, q, _⟩ := h3.there hd
    exact ⟨o, q⟩
/-- a new owned object -/
theorem SR.new {o : HO} (s : SR K ρ O F A σ H) (hn : H a = none) (new : RepR K F (A ++ [a]) (upd H a o) c a) : SR K ρ (O ++ [c]) F (A ++ [a]) σ (upd H a o) := by
  have nA : a ∉ A := fun h => by obtain ⟨o, q⟩ := s.tracked h; rw [hn] at q; cases q
  have hF : F a = none := s.ex.free hn
  refine ⟨fun b u e => ?_, fun j b c' h1 h2 h3 => ?_, ?_, by simp [s.len], fun j b c' h1 h2 => ?_, s.sl, fun i sv h1 h2 => ?_⟩
  · rw [upd_ne (ne_of_none e hF)]; exact s.ex _ _ e
  · by_cases hj : j < O.length
    · rw [List.getElem?_append_left (by rw [s.len]; exact hj)] at h1
      rw [List.getElem?_append_left hj] at h2
      exact s.own j b c' h1 h2 h3
    · have hl : j < (A ++ [a]).length := by
        rcases Nat.lt_or_ge j (A ++ [a]).length with q | q
        · exact q
        · rw [List.getElem?_eq_none q] at h1; cases h1
      have : j = A.length := by rw [List.length_append] at hl; simp at hl; have := s.len; omega
      subst this
      simp at h1
      subst h1
      exact hF
  · rw [List.nodup_append]
    exact ⟨s.nd, by simp, fun x hx y hy => by simp at hy; subst hy; exact fun e => nA (e ▸ hx)⟩
  · by_cases hj : j < O.length
    · rw [List.getElem?_append_left (by rw [s.len]; exact hj)] at h1
      rw [List.getElem?_append_left hj] at h2
      exact (s.res j b c' h1 h2).mono (.refl F) fun u e => by rw [upd_ne (ne_of_none e hn)]; exact e
    · have hl : j < (A ++ [a]).length := by
        rcases Nat.lt_or_ge j (A ++ [a]).length with q | q
        · exact q
        · rw [List.getElem?_eq_none q] at h1; cases h1
      have e1 : j = A.length := by rw [List.length_append] at hl; simp at hl; have := s.len; omega
      subst e1
      simp at h1
      subst h1
      rw [s.len] at h2
      simp at h2
      subst h2
      exact new
  · obtain ⟨v, e, r⟩ := s.get i sv h1 h2
    exact ⟨v, e, r.mono (.refl F)⟩
theorem Xs.new {o : HO} (hn : H a = none) : Xs F A H F (A ++ [a]) (upd H a o) :=
  ⟨.refl _, fun _ _ e => .inl e, fun b u e _ => by rw [upd_ne (ne_of_none e hn)]; exact e, fun b e => by
    by_cases hb : b = a
    · subst hb; exact hn
    · rw [upd_ne hb] at e; exact e, [a], rfl, fun b hb => by simp at hb; subst hb; exact hn⟩
/-- an owned list becomes data -/
theorem SR.freeze {ds : List PyData} (s : SR K ρ O F A σ H) (ho : O[k]? = some (.lst (ds.map .dat))) : ∃ (a : Addr) (F' : Hp), A[k]? = some a ∧ Xs F A H F' A H ∧ SR K ρ (O.set k .dead) F' A σ H ∧ Rep K F' (.ref a) (.list ds) := by
  obtain ⟨a, ha⟩ := s.addr ho
  obtain ⟨vs, h1, h2⟩ := s.at ho ha
  have hF : F a = none := s.own k a _ ha ho (by intro q; cases q)
  have hk : k < O.length := (List.getElem?_eq_some_iff.mp ho).1
  have sf : Same F (upd F a (.lst vs)) := same_new hF
  have ne : ∀ (j : Nat) (b : Addr), A[j]? = some b → j ≠ k → b ≠ a := fun j b g1 g2 e => by
    rw [e] at g1
    obtain ⟨l1, e1⟩ := List.getElem?_eq_some_iff.mp g1
    obtain ⟨l2, e2⟩ := List.getElem?_eq_some_iff.mp ha
    exact g2 ((List.getElem_inj s.nd).mp (e1.trans e2.symm))
  have rr : ∀ {ds : List PyData} {vs : List V}, RepVs K F A (ds.map .dat) vs → Reps K F vs ds := by
    intro ds
    induction ds with
    | nil => intro vs h; cases h; exact .nil
    | cons d ds ih => intro vs h; cases h with | cons r t => exact .cons r (ih t)
  refine ⟨a, upd F a (.lst vs), ha, ⟨sf, fun b o e => ?_, fun _ _ e _ => e, fun _ e => e, [], by simp, by simp⟩, ⟨fun b o e => ?_, fun j b c' g1 g2 g3 => ?_, s.nd, by simpa using s.len, fun j b c' g1 g2 => ?_, s.sl, fun i sv g1 g2 => ?_⟩, .lst upd_same ((rr h2).mono sf)⟩
  · by_cases hb : b = a
    · subst hb; exact .inr (.inr (List.mem_of_getElem? ha))
    · rw [upd_ne hb] at e; exact .inl e
  · by_cases hb : b = a
    · subst hb; rw [upd_same] at e; cases e; exact h1
    · rw [upd_ne hb] at e; exact s.ex _ _ e
  · by_cases hj : j = k
    · subst hj; rw [List.getElem?_set_self hk] at g2; cases g2; exact absurd rfl g3
    · rw [List.getElem?_set_ne (Ne.symm hj)] at g2
      rw [upd_ne (ne j b g1 hj)]; exact s.own j b c' g1 g2 g3
  · by_cases hj : j = k
    · subst hj; rw [List.getElem?_set_self hk] at g2; cases g2; rw [ha] at g1; cases g1; exact ⟨_, upd_same⟩
    · rw [List.getElem?_set_ne (Ne.symm hj)] at g2
      have := (s.res j b c' g1 g2).mono (B := []) sf (H' := H) fun u e => e
      rwa [List.append_nil] at this
  · obtain ⟨v, e, r⟩ := s.get i sv g1 g2
    have := r.mono (B := []) sf
    rw [List.append_nil] at this
    exact ⟨v, e, this⟩
end

/-! ### slots as data -/
def vw : SV → Option PyData
  | .dat d => some d
  | _ => none
def view (ρ : List SV) : Dl := ρ.map vw

mutual
inductive Vd (O : Rs) : SV → PyData → Prop
  | dat (d : PyData) : Vd O (.dat d) d
  | ptr {k : Nat} {xs : List SV} {ds : List PyData} : O[k]? = some (.lst xs) → Vds O xs ds → Vd O (.ptr k) (.list ds)
inductive Vds (O : Rs) : List SV → List PyData → Prop
  | nil : Vds O [] []
  | cons {x : SV} {xs : List SV} {d : PyData} {ds : List PyData} : Vd O x d → Vds O xs ds → Vds O (x :: xs) (d :: ds)
end
theorem vds_map {O : Rs} : ∀ {ds : List PyData}, Vds O (ds.map .dat) ds
  | [] => .nil
  | d :: ds => .cons (.dat d) vds_map
inductive Vw (O : Rs) : List SV → Dl → Prop
  | nil : Vw O [] []
  | no {x : SV} {ρ : List SV} {δ : Dl} : Vw O ρ δ → Vw O (x :: ρ) (none :: δ)
  | yes {x : SV} {d : PyData} {ρ : List SV} {δ : Dl} : Vd O x d → Vw O ρ δ → Vw O (x :: ρ) (some d :: δ)
theorem Vw.len {O : Rs} {ρ : List SV} {δ : Dl} (h : Vw O ρ δ) : ρ.length = δ.length := by
  induction h with
  | nil => rfl
  | no _ ih => simp [ih]
  | yes _ _ ih => simp [ih]
theorem Vw.get {O : Rs} {ρ : List SV} {δ : Dl} (h : Vw O ρ δ) : ∀ {i : Nat} {d : PyData}, δ[i]? = some (some d) → ∃ sv, ρ[i]? = some sv ∧ Vd O sv d := by
  induction h with
  | nil => intro i d h; simp at h
  | no _ ih => intro i d h; cases i with
    | zero => simp at h
    | succ i => simpa using ih (i := i) (d := d) (by simpa using h)
  | @yes x d0 _ _ v _ ih => intro i d h; cases i with
    | zero => simp at h; subst h; exact ⟨x, rfl, v⟩
    | succ i => simpa using ih (i := i) (d := d) (by simpa using h)
mutual
/-- data without lists -/
def lf : PyData → Bool
  | .none => true
  | .bool _ => true
  | .int _ => true
  | .str _ => true
  | .tuple xs => lfs xs
  | _ => false
def lfs : List PyData → Bool
  | [] => true
  | d :: r => lf d && lfs r
end
section
variable {K : PySem.W.Frag} {F F' : Hp} {A : List Addr} {H H' : Hp} {ρ : List SV} {O : Rs} {σ : L2.St}
theorem SR.view (s : SR K ρ O F A σ H) : PSl K F (view ρ) σ := by
  refine ⟨by simpa [SS.view] using s.sl, fun i d h => ?_⟩
  unfold SS.view at h
  rw [List.getElem?_map] at h
  cases e : ρ[i]? with
  | none => rw [e] at h; cases h
  | some sv =>
    rw [e] at h
    cases sv with
    | dat d' =>
      cases h
      obtain ⟨v, e1, r⟩ := s.get i _ e (by intro q; cases q)
      exact ⟨v, e1, r⟩
    | ptr k => cases h
    | raw u => cases h
    | un => cases h
theorem reps_of : ∀ {ds : List PyData} {vs : List V}, RepVs K F A (ds.map .dat) vs → Reps K F vs ds
  | [], _, .nil => .nil
  | _ :: _, _, .cons r t => .cons r (reps_of t)
theorem reps_to : ∀ {ds : List PyData} {vs : List V}, Reps K F vs ds → RepVs K F A (ds.map .dat) vs
  | [], _, .nil => .nil
  | _ :: _, _, .cons r t => .cons r (reps_to t)
mutual
theorem Rep.lf_keep {F F' : Hp} (k : ∀ a o, F a = some o → (∃ xs, o = .tup xs) ∨ (∃ ob u, o = .frz ob u) → F' a = some o) : ∀ {v : V} {d : PyData}, Rep K F v d → lf d = true → Rep K F' v d
  | _, _, .non, _ => .non
  | _, _, .bl b, _ => .bl b
  | _, _, .int b, _ => .int b
  | _, _, .str b, _ => .str b
  | _, _, .lst h r, e => by simp [lf] at e
  | _, _, .tup h r, e => by
    refine .tup ?_ (Reps.lf_keep k r (by simpa [lf] using e))
    rcases h with (h | ⟨o, h⟩) | h
    · exact .inl (.inl (k _ _ h (.inl ⟨_, rfl⟩)))
    · exact .inl (.inr ⟨o, k _ _ h (.inr ⟨_, _, rfl⟩)⟩)
    · exact .inr h
  | _, _, .stup h r, e => by simp [lf] at e
  | _, _, .slst h r, e => by simp [lf] at e
theorem Reps.lf_keep {F F' : Hp} (k : ∀ a o, F a = some o → (∃ xs, o = .tup xs) ∨ (∃ ob u, o = .frz ob u) → F' a = some o) : ∀ {vs : List V} {ds : List PyData}, Reps K F vs ds → lfs ds = true → Reps K F' vs ds
  | _, _, .nil, _ => .nil
  | _, _, .cons r t, e => by
    have e' := Bool.and_eq_true_iff.mp (show (lf _ && lfs _) = true from e)
    exact .cons (Rep.lf_keep k r e'.1) (Reps.lf_keep k t e'.2)
end
/-- what is owned and alive, at an address -/
def Live (A : List Addr) (O : Rs) (a : Addr) : Prop := ∃ (k : Nat) (c : Ow), A[k]? = some a ∧ O[k]? = some c ∧ c ≠ .dead
open Classical in
noncomputable def lend (A : List Addr) (O : Rs) (F H : Hp) : Hp := fun a => if Live A O a then H a else F a
open Classical in
noncomputable def taken (A : List Addr) (O : Rs) (F : Hp) : Hp := fun a => if Live A O a then none else F a
theorem SR.lend (s : SR K ρ O F A σ H) : Same (lend A O F H) H := fun a o e => by
  unfold SS.lend at e
  split at e
  · exact e
  · exact s.ex _ _ e
theorem SR.lend_f (s : SR K ρ O F A σ H) : Same F (SS.lend A O F H) := fun a o e => by
  unfold SS.lend
  rw [if_neg]
  · exact e
  · rintro ⟨k, c, h1, h2, h3⟩
    rw [s.own k a c h1 h2 h3] at e; cases e
mutual
theorem SR.vd (s : SR K ρ O F A σ H) : ∀ {sv : SV} {d : PyData} {v : V}, Vd O sv d → RepV K F A sv v → Rep K (SS.lend A O F H) v d
  | _, _, _, .dat d, r => Rep.mono s.lend_f r
  | _, _, _, .ptr (k := k) h hs, r => by
    obtain ⟨a, ha, rfl⟩ := r
    obtain ⟨vs, g1, g2⟩ := s.at h ha
    refine .lst (vs := vs) ?_ (SR.vds s hs g2)
    unfold SS.lend
    rw [if_pos ⟨k, _, ha, h, by intro q; cases q⟩]
    exact g1
theorem SR.vds (s : SR K ρ O F A σ H) : ∀ {xs : List SV} {ds : List PyData} {vs : List V}, Vds O xs ds → RepVs K F A xs vs → Reps K (SS.lend A O F H) vs ds
  | _, _, _, .nil, .nil => .nil
  | _, _, _, .cons h hs, .cons r rs => .cons (SR.vd s h r) (SR.vds s hs rs)
end
theorem SR.viewB {δ : Dl} (s : SR K ρ O F A σ H) (hv : Vw O ρ δ) : PSl K (SS.lend A O F H) δ σ := by
  refine ⟨by rw [← hv.len]; exact s.sl, fun i d h => ?_⟩
  obtain ⟨sv, e, r⟩ := hv.get h
  obtain ⟨v, e1, rv⟩ := s.get i sv e (by intro q; rw [q] at r; cases r)
  exact ⟨v, e1, s.vd r rv⟩
theorem SR.give (s : SR K ρ O F A σ H) (x : Xt (SS.lend A O F H) H F' H') : Xt F H (SS.taken A O F') H' := by
  refine ⟨fun a o e => ?_, x.h, fun a o e => ?_, fun a o e => ?_⟩
  · unfold SS.taken
    rw [if_neg]
    · exact x.f _ _ (s.lend_f _ _ e)
    · rintro ⟨k, c, h1, h2, h3⟩
      rw [s.own k a c h1 h2 h3] at e; cases e
  · unfold SS.taken at e
    split at e
    · cases e
    · exact x.s _ _ e
  · unfold SS.taken at e
    split at e
    · cases e
    · rename_i hn
      rcases x.n a o e with q | q
      · unfold SS.lend at q
        rw [if_neg hn] at q
        exact .inl q
      · exact .inr q
theorem SR.give_lf {v : V} {d : PyData} (s : SR K ρ O F A σ H) (x : Xt (SS.lend A O F H) H F' H') (r : Rep K F' v d) (h : lf d = true) : Rep K (SS.taken A O F') v d := by
  refine Rep.lf_keep (fun a o e k => ?_) r h
  unfold SS.taken
  rw [if_neg]
  · exact e
  · rintro ⟨j, c, h1, h2, h3⟩
    obtain ⟨o', ho, n1, n2⟩ := (s.res j a c h1 h2).there h3
    have e2 := x.h _ _ ho
    rw [x.s _ _ e] at e2
    cases e2
    rcases k with ⟨xs, q⟩ | ⟨ob, u, q⟩
    · exact n1 xs q
    · exact n2 ob u q
theorem SR.give_lfs {vs : List V} {ds : List PyData} (s : SR K ρ O F A σ H) (x : Xt (SS.lend A O F H) H F' H') (r : Reps K F' vs ds) (h : lfs ds = true) : Reps K (SS.taken A O F') vs ds := by
  refine Reps.lf_keep (fun a o e k => ?_) r h
  unfold SS.taken
  rw [if_neg]
  · exact e
  · rintro ⟨j, c, h1, h2, h3⟩
    obtain ⟨o', ho, n1, n2⟩ := (s.res j a c h1 h2).there h3
    have e2 := x.h _ _ ho
    rw [x.s _ _ e] at e2
    cases e2
    rcases k with ⟨xs, q⟩ | ⟨ob, u, q⟩
    · exact n1 xs q
    · exact n2 ob u q
end
end SS
set_option maxHeartbeats 4000000
/-! The data layer, six: expressions over states with owned objects. -/
namespace SS
open PySem PySem.Spec PyProof.Rows L2

abbrev Post := SV → Rs → Prop
def DE (X : Cx) (e : Expr) (ρ : List SV) (O : Rs) (post : Post) : Prop := ∀ (F : Hp) (A : List Addr) (σ : L2.St) (H : Hp), SR X.K ρ O F A σ H → ∀ Q : VK, (∀ v F' A' H' sv O', post sv O' → Xs F A H F' A' H' → SR X.K ρ O' F' A' σ H' → RepV X.K F' A' sv v → Q v H') → wE X e σ H Q
def DTe (X : Cx) (e : Expr) (ρ : List SV) (O : Rs) (post : Bool → Rs → Prop) : Prop := ∀ (F : Hp) (A : List Addr) (σ : L2.St) (H : Hp), SR X.K ρ O F A σ H → ∀ Q : Bool → Hp → Prop, (∀ F' A' H' b O', post b O' → Xs F A H F' A' H' → SR X.K ρ O' F' A' σ H' → Q b H') → wT X e σ H Q
def DWe (X : Cx) (e : Expr) (ρ : List SV) (O : Rs) (post : Bool → Rs → Prop) : Prop := ∀ (F : Hp) (A : List Addr) (σ : L2.St) (H : Hp), SR X.K ρ O F A σ H → ∀ Q : Bool → Hp → Prop, (∀ F' A' H' b O', post b O' → Xs F A H F' A' H' → SR X.K ρ O' F' A' σ H' → Q b H') → wW X e σ H Q
def DAe (X : Cx) (es : List Expr) (ρ : List SV) (O : Rs) (post : List SV → Rs → Prop) : Prop := ∀ (F : Hp) (A : List Addr) (σ : L2.St) (H : Hp), SR X.K ρ O F A σ H → ∀ Q : List V → Hp → Prop, (∀ vs F' A' H' svs O', post svs O' → Xs F A H F' A' H' → SR X.K ρ O' F' A' σ H' → RepVs X.K F' A' svs vs → Q vs H') → wA X es σ H Q
section
variable {X : Cx} {ρ : List SV} {O : Rs} {e a b : Expr} {es : List Expr} {post : Post} {d : PyData} {ds : List PyData} {pos p0 : Pos} {sv : SV}
theorem DE.mono {post' : Post} (h : DE X e ρ O post) (k : ∀ sv O', post sv O' → post' sv O') : DE X e ρ O post' := fun F A σ H s Q q => h F A σ H s Q fun v F' A' H' sv O' p => q v F' A' H' sv O' (k sv O' p)
theorem de_pure (h : DP X e (view ρ) d) (k : post (.dat d) O) : DE X e ρ O post := fun F A σ H s Q q => h F σ H s.ex s.view Q fun v F' H' x r => q v F' A H' _ O k (.pure x) (s.pure x) r
theorem de_borrow (δ : Dl) (hv : Vw O ρ δ) (h : DP X e δ d) (hl : lf d = true) (k : post (.dat d) O) : DE X e ρ O post := fun F A σ H s Q q =>
  h _ σ H s.lend (s.viewB hv) Q fun v F' H' x r => q v _ A H' _ O k (.pure (s.give x)) (s.pure (s.give x)) (s.give_lf x r hl)
theorem de_borrowF (δ : Dl) (hv : Vw O ρ δ) (h : DF X e δ ds) (hl : lfs ds = true) (k : post (.dat (.list ds)) O) : DE X e ρ O post := fun F A σ H s Q q =>
  h _ σ H s.lend (s.viewB hv) Q fun p vs F' H' x n1 n2 hp r => by
    have x1 := s.give x
    have n3 : SS.taken A O F' p = none := by
      unfold SS.taken
      split
      · rfl
      · exact n1
    obtain ⟨x2, r2⟩ := fresh_xt x1 n3 n2 hp (s.give_lfs x r hl)
    exact q _ _ A H' _ O k (.pure x2) (s.pure x2) r2
theorem dte_pure {b : Bool} {post : Bool → Rs → Prop} (h : DT X e (view ρ) b) (k : post b O) : DTe X e ρ O post := fun F A σ H s Q q => h F σ H s.ex s.view Q fun F' H' x => q F' A H' _ O k (.pure x) (s.pure x)
theorem dte_borrow {b : Bool} {post : Bool → Rs → Prop} (δ : Dl) (hv : Vw O ρ δ) (h : DT X e δ b) (k : post b O) : DTe X e ρ O post := fun F A σ H s Q q =>
  h _ σ H s.lend (s.viewB hv) Q fun F' H' x => q _ A H' _ O k (.pure (s.give x)) (s.pure (s.give x))
theorem de_var (i : Nat) {x : Str} (h : ρ[i]? = some sv) (k : post sv O) (hu : sv ≠ .un := by intro q; cases q) (hN : X.N[i]? = some x := by rfl) (hv : Vis X.env.scope x := by first | exact Or.inl rfl | exact Or.inr (Or.inl rfl) | exact Or.inr (Or.inr rfl))
    (h1 : (x == ("__debug__" : Str)) = false := by decide) (h2 : (x == ("__classdict__" : Str)) = false := by decide) : DE X (.Name x pos) ρ O post := fun F A σ H s Q q => by
  obtain ⟨v, e1, r⟩ := s.get i sv h hu
  exact wE_of (pe_var hN hv h1 h2) ⟨v, e1, q v F A H sv O k .refl s r⟩

/-! arguments -/
theorem dae_nil {post : List SV → Rs → Prop} (k : post [] O) : DAe X [] ρ O post := fun F A σ H s Q q => wA_of pa_nil (q [] F A H [] O k .refl s .nil)
theorem dae_cons {post : List SV → Rs → Prop} (h : DE X e ρ O fun sv O1 => DAe X es ρ O1 fun svs O2 => post (sv :: svs) O2) (hs : starEach (e :: es) X.env = (false, eval e X.env) :: starEach es X.env := by rfl) : DAe X (e :: es) ρ O post := fun F A σ H s Q q =>
  wA_of (pa_cons pe_star pa_star hs) (h F A σ H s _ fun v F1 A1 H1 sv O1 p1 x1 s1 r1 => p1 F1 A1 σ H1 s1 _ fun vs F2 A2 H2 svs O2 p2 x2 s2 r2 => q (v :: vs) F2 A2 H2 (sv :: svs) O2 p2 (x1.trans x2) s2 (.cons (r1.xs x2) r2))
theorem dae_pure {post : List SV → Rs → Prop} (h : DA X es (view ρ) ds) (k : post (ds.map .dat) O) : DAe X es ρ O post := fun F A σ H s Q q => h F σ H s.ex s.view Q fun vs F' H' x r => q vs F' A H' _ O k (.pure x) (s.pure x) (reps_to r)

/-! operators on ints, some of whose parts change owned objects -/
theorem de_bin {op : Operator} {r : R2} (ho : OpR X (binaryOp op) r) (ha : DE X a ρ O fun x O1 => ∃ d1, x = .dat d1 ∧ DE X b ρ O1 fun y O2 => ∃ d2 d, y = .dat d2 ∧ RD X.K r d1 d2 d ∧ post (.dat d) O2) : DE X (.BinOp a op b pos) ρ O post := fun F A σ H s Q q =>
  wE_of (pe_op ho pe_star pe_star) (ha F A σ H s _ fun x F1 A1 H1 sx O1 p1 x1 s1 r1 => by
    obtain ⟨d1, rfl, p1⟩ := p1
    refine p1 F1 A1 σ H1 s1 _ fun y F2 A2 H2 sy O2 p2 x2 s2 r2 => ?_
    obtain ⟨d2, d, rfl, hr, p2⟩ := p2
    exact hr x y F2 H2 s2.ex (Rep.mono x2.f r1) r2 Q fun v F3 H3 x3 r3 => q v F3 A2 H3 _ O2 p2 ((x1.trans x2).trans (.pure x3)) (s2.pure x3) r3)
theorem de_cmp {op : CmpOp} {r : R2} (ho : OpR X (compareOp op) r) (ha : DE X a ρ O fun x O1 => ∃ d1, x = .dat d1 ∧ DE X b ρ O1 fun y O2 => ∃ d2 d, y = .dat d2 ∧ RD X.K r d1 d2 d ∧ post (.dat d) O2) (hm : behindInMarks op b = false := by first | exact nomark _ | rfl) : DE X (.Compare a [op] [b] pos) ρ O post := fun F A σ H s Q q =>
  wE_of (pe_cmpR ho pe_star pe_star hm) (ha F A σ H s _ fun x F1 A1 H1 sx O1 p1 x1 s1 r1 => by
    obtain ⟨d1, rfl, p1⟩ := p1
    refine p1 F1 A1 σ H1 s1 _ fun y F2 A2 H2 sy O2 p2 x2 s2 r2 => ?_
    obtain ⟨d2, d, rfl, hr, p2⟩ := p2
    exact hr x y F2 H2 s2.ex (Rep.mono x2.f r1) r2 Q fun v F3 H3 x3 r3 => q v F3 A2 H3 _ O2 p2 ((x1.trans x2).trans (.pure x3)) (s2.pure x3) r3)
theorem de_ix {r : R2} (ho : IxR X r) (ha : DE X a ρ O fun x O1 => ∃ d1, x = .dat d1 ∧ DE X b ρ O1 fun y O2 => ∃ d2 d, y = .dat d2 ∧ RD X.K r d1 d2 d ∧ post (.dat d) O2) (hs : PlainIx b := by exact fun _ _ => rfl) : DE X (.Subscript a b pos) ρ O post := fun F A σ H s Q q =>
  wE_of (pe_ix ho pe_star pe_star hs) (ha F A σ H s _ fun x F1 A1 H1 sx O1 p1 x1 s1 r1 => by
    obtain ⟨d1, rfl, p1⟩ := p1
    refine p1 F1 A1 σ H1 s1 _ fun y F2 A2 H2 sy O2 p2 x2 s2 r2 => ?_
    obtain ⟨d2, d, rfl, hr, p2⟩ := p2
    exact hr x y F2 H2 s2.ex (Rep.mono x2.f r1) r2 Q fun v F3 H3 x3 r3 => q v F3 A2 H3 _ O2 p2 ((x1.trans x2).trans (.pure x3)) (s2.pure x3) r3)
theorem de_un {op : UnaryOp} {r : V → Hp → VK → Prop} (ho : UnR X (unaryOp op) r) (ha : DE X a ρ O fun x O1 => ∃ d1 d, x = .dat d1 ∧ RU X.K r d1 d ∧ post (.dat d) O1) : DE X (.UnaryOp op a pos) ρ O post := fun F A σ H s Q q =>
  wE_of (pe_un ho pe_star) (ha F A σ H s _ fun x F1 A1 H1 sx O1 p1 x1 s1 r1 => by
    obtain ⟨d1, d, rfl, hr, p1⟩ := p1
    exact hr x F1 H1 s1.ex r1 Q fun v F3 H3 x3 r3 => q v F3 A1 H3 _ O1 p1 (x1.trans (.pure x3)) (s1.pure x3) r3)
theorem ru_neg {K : PySem.W.Frag} {i : Int} : RU K (rU fun i => .int (-i)) (.int i) (.int (-i)) := fun x F H sm rx Q q => by cases rx; exact ⟨i, rfl, q _ F H (.refl sm) (.int _)⟩
/-- an item of an owned list -/
theorem de_item {k : Nat} {xs : List SV} {i : Int} (ho : O[k]? = some (.lst xs)) (ha : DE X a ρ O fun x O1 => x = .ptr k ∧ O1 = O) (hb : DP X b (view ρ) (.int i)) (hi : atI xs i = some sv) (kk : post sv O) (hs : PlainIx b := by exact fun _ _ => rfl) : DE X (.Subscript a b pos) ρ O post := fun F A σ H s Q q =>
  wE_of (pe_ix ix_list pe_star pe_star hs) (ha F A σ H s _ fun x F1 A1 H1 sx O1 p1 x1 s1 r1 => by
    obtain ⟨rfl, rfl⟩ := p1
    refine hb F1 σ H1 s1.ex s1.view _ fun y F2 H2 x2 r2 => ?_
    cases r2
    have s2 := s1.pure x2
    obtain ⟨ad, ha, rfl⟩ := r1
    obtain ⟨vs, g1, g2⟩ := s2.at ho ha
    have hl : xs.length = vs.length := g2.length
    have get : ∀ {xs : List SV} {vs : List V} {j : Nat} {u : SV}, RepVs X.K F2 A1 xs vs → xs[j]? = some u → ∃ v, vs[j]? = some v ∧ RepV X.K F2 A1 u v := by
      intro xs
      induction xs with
      | nil => intro vs j u h e; simp at e
      | cons x xs ih => intro vs j u h e; cases h with | cons r t => cases j with
        | zero => simp at e; subst e; exact ⟨_, rfl, r⟩
        | succ j => simpa using ih t (by simpa using e)
    unfold atI at hi
    cases e1 : ixN xs.length i with
    | none => rw [e1] at hi; cases hi
    | some j =>
      rw [e1] at hi
      obtain ⟨v, h1, h2⟩ := get g2 (show xs[j]? = some sv from hi)
      refine ⟨ad, vs, i, v, rfl, rfl, SqL.of g1, ?_, q v F2 A1 H2 sv O1 kk (x1.trans (.pure x2)) s2 h2⟩
      unfold atI
      rw [← hl, e1]
      exact h1)
/-- len of an owned list -/
theorem de_lenO {k : Nat} {xs : List SV} (hg : Gl X "len") (hm : X.mg "len" = none) (ha : DE X a ρ O fun y O1 => y = .ptr k ∧ O1[k]? = some (.lst xs) ∧ post (.dat (.int xs.length)) O1) (he : starEach [a] X.env = [(false, eval a X.env)] := by rfl) : DE X (.Call (.Name "len" p0) [a] [] pos) ρ O post := fun F A σ H s Q q =>
  wE_of (pe_callB call_len_seq hg hm PySem.boot_len pa_star (by decide) (by decide) he (by rfl)) (wA_of (pa_cons pe_star pa_nil he) (ha F A σ H s _ fun v F1 A1 H1 sx O1 p1 x1 s1 r1 => by
    obtain ⟨rfl, p1, p2⟩ := p1
    obtain ⟨ad, ha, rfl⟩ := r1
    obtain ⟨vs, g1, g2⟩ := s1.at p1 ha
    refine ⟨ad, vs, rfl, .inl (SqL.of g1), ?_⟩
    have e : (vs.length : Int) = xs.length := by rw [show xs.length = vs.length from g2.length]
    rw [e]
    exact q _ F1 A1 H1 _ O1 p2 x1 s1 (Rep.int _)))

/-! calls -/
def spS (K : PySem.W.Frag) (S : List SV → Rs → Post → Prop) : Sp := fun vs H Q _ => ∃ (F : Hp) (A : List Addr) (svs : List SV) (O : Rs) (post : Post), S svs O post ∧ SR K [] O F A [] H ∧ RepVs K F A svs vs ∧
  ∀ v F' A' H' sv O', post sv O' → Xs F A H F' A' H' → SR K [] O' F' A' [] H' → RepV K F' A' sv v → Q v H'
structure MCal (P : Program) (w : World) (K : PySem.W.Frag) (mg : Str → Option Value) (base : Heap) (C : Addr) (m : Str) (k : Nat) (ps : List Str) (sp : Sp) : Prop where
  ex : ∃ (f : Addr) (fd : FuncData), FnOk P w K mg base CX0 k f fd ps sp ∧ Meth K C m f ∧ Binds K fd ps []
  cl : Cls K C
structure KCal (P : Program) (w : World) (K : PySem.W.Frag) (mg : Str → Option Value) (base : Heap) (C : Addr) (x : Str) (k : Nat) (ps : List Str) (sp : Sp) : Prop where
  ex : ∃ (f : Addr) (fd : FuncData), FnOk P w K mg base CX0 k f fd ps sp ∧ Mk K C f ∧ Binds K fd ps []
  mg : mg x = some (.ref C)
theorem de_call {S : List SV → Rs → Post → Prop} {x : Str} {k : Nat} {ps : List Str} (c : Cal X.prog X.w X.K X.mg X.base x k ps (spS X.K S)) (hr : Room k X.A) (hg : Gl X x) (ha : DAe X (e :: es) ρ O fun svs O1 => S svs O1 post) (hdb : (x == ("__debug__" : Str)) = false := by decide)
    (he : starEach (e :: es) X.env = (false, eval e X.env) :: starEach es X.env := by rfl) (hpl : (backTo pos (starEach es X.env)).any (·.1) = false := by rfl) : DE X (.Call (.Name x p0) (e :: es) [] pos) ρ O post := fun F A σ H s Q q => by
  obtain ⟨f, fd, G, hm, hk, hb⟩ := c.ex
  refine wE_of (pe_call G hr hg hm hk hb .nil pass0 pa_star hdb he hpl) (ha F A σ H s _ fun vs F1 A1 H1 svs O1 p1 x1 s1 r1 => ?_)
  rw [List.append_nil]
  exact ⟨F1, A1, svs, O1, post, p1, s1.no, r1, fun v F2 A2 H2 sv O2 p2 x2 s2 r2 => q v F2 A2 H2 sv O2 p2 (x1.trans x2) (s1.back x2 s2) r2⟩
theorem de_callP {R : List PyData → PyData → Prop} {x : Str} {k : Nat} {ps : List Str} (c : Cal X.prog X.w X.K X.mg X.base x k ps (spP X.K R)) (hr : Room k X.A) (hg : Gl X x) (ha : DAe X (e :: es) ρ O fun svs O1 => ∃ ds d, svs = ds.map .dat ∧ R ds d ∧ post (.dat d) O1) (hdb : (x == ("__debug__" : Str)) = false := by decide)
    (he : starEach (e :: es) X.env = (false, eval e X.env) :: starEach es X.env := by rfl) (hpl : (backTo pos (starEach es X.env)).any (·.1) = false := by rfl) : DE X (.Call (.Name x p0) (e :: es) [] pos) ρ O post := fun F A σ H s Q q => by
  obtain ⟨f, fd, G, hm, hk, hb⟩ := c.ex
  refine wE_of (pe_call G hr hg hm hk hb .nil pass0 pa_star hdb he hpl) (ha F A σ H s _ fun vs F1 A1 H1 svs O1 p1 x1 s1 r1 => ?_)
  rw [List.append_nil]
  obtain ⟨ds, d, rfl, hR, p1⟩ := p1
  exact ⟨F1, ds, d, hR, s1.ex, reps_of r1, fun v F2 H2 x2 r2 => q v F2 A1 H2 _ O1 p1 (x1.trans (.pure x2)) (s1.pure x2) r2⟩
theorem lookup_paired {K : PySem.W.Frag} {F : Hp} {A : List Addr} {f : Str} : ∀ {fs : List (Str × SV)} {fv : List (Str × V)}, Paired (fun (p : Str × SV) (q : Str × V) => p.1 = q.1 ∧ RepV K F A p.2 q.2) fs fv →
    (fs.lookup f = none → fv.lookup f = none) ∧ ∀ sv, fs.lookup f = some sv → ∃ v, fv.lookup f = some v ∧ RepV K F A sv v
  | _, _, .nil => ⟨fun _ => rfl, fun sv h => by simp at h⟩
  | (g, su) :: fs, (g', u) :: fv, .cons r t => by
    obtain ⟨e, ru⟩ := r
    have e' : g = g' := e
    subst e'
    obtain ⟨i1, i2⟩ := lookup_paired (f := f) t
    by_cases h : (f == g) = true
    · simp only [List.lookup_cons, h]
      exact ⟨(fun q => nomatch q), (fun sv q => by cases q; exact ⟨u, rfl, ru⟩)⟩
    · have h' : (f == g) = false := by simpa using h
      simp only [List.lookup_cons, h']
      exact ⟨i1, i2⟩
theorem de_meth {S : List SV → Rs → Post → Prop} {C : Addr} {m : Str} {k : Nat} {ps : List Str} {apos : Pos} {pl : Sem Bool} (c : MCal X.prog X.w X.K X.mg X.base C m k ps (spS X.K S)) (hr : Room k X.A)
    (ho : DE X a ρ O fun so O1 => ∃ j fs, so = .ptr j ∧ O1[j]? = some (.ins C fs) ∧ fs.lookup m = none ∧ DAe X (e :: es) ρ O1 fun svs O2 => S (.ptr j :: svs) O2 post)
    (hst : starEach (e :: es) X.env = (false, eval e X.env) :: starEach es X.env := by rfl) (hpl : (backTo pos (starEach es X.env)).any (·.1) = false := by rfl)
    (ht : eval (.Call (.Attribute a m apos) (e :: es) [] pos) X.env = (do
      let ov ← eval a X.env
      standAt apos.atName
      let (f, first) ← holding [ov] (getMethod ov m pl)
      callWith pos f first (backTo pos (starEach (e :: es) X.env)) (backToKw pos (keywordEach [] X.env))) := by rfl) : DE X (.Call (.Attribute a m apos) (e :: es) [] pos) ρ O post := fun F A σ H s Q q => by
  obtain ⟨f, fd, G, hm, hb⟩ := c.ex
  refine wE_of (pe_meth pe_star c.cl hm G hr hb .nil pass0 pa_star hst hpl ht) (ho F A σ H s _ fun v F1 A1 H1 so O1 p1 x1 s1 r1 => ?_)
  obtain ⟨j, fs, rfl, g1, g2, p1⟩ := p1
  obtain ⟨ad, had, rfl⟩ := r1
  obtain ⟨dx, fv, h1, h2⟩ := s1.at g1 had
  refine ⟨ad, dx, fv, rfl, h1, (lookup_paired h2).1 g2, p1 F1 A1 σ H1 s1 _ fun vs F2 A2 H2 svs O2 p2 x2 s2 r2 => ?_⟩
  rw [List.append_nil]
  obtain ⟨B, hA2, _⟩ := x2.p
  exact ⟨F2, A2, .ptr j :: svs, O2, post, p2, s2.no, .cons ⟨ad, by rw [hA2]; exact preGet had, rfl⟩ r2, fun v F3 A3 H3 sv O3 p3 x3 s3 r3 => q v F3 A3 H3 sv O3 p3 ((x1.trans x2).trans x3) (s2.back x3 s3) r3⟩
theorem de_meth0 {S : List SV → Rs → Post → Prop} {C : Addr} {m : Str} {k : Nat} {ps : List Str} {apos : Pos} {pl : Sem Bool} (c : MCal X.prog X.w X.K X.mg X.base C m k ps (spS X.K S)) (hr : Room k X.A)
    (ho : DE X a ρ O fun so O1 => ∃ j fs, so = .ptr j ∧ O1[j]? = some (.ins C fs) ∧ fs.lookup m = none ∧ S [.ptr j] O1 post)
    (ht : eval (.Call (.Attribute a m apos) [] [] pos) X.env = (do
      let ov ← eval a X.env
      standAt apos.atName
      let (f, first) ← holding [ov] (getMethod ov m pl)
      callWith pos f first (backTo pos (starEach [] X.env)) (backToKw pos (keywordEach [] X.env))) := by rfl) : DE X (.Call (.Attribute a m apos) [] [] pos) ρ O post := fun F A σ H s Q q => by
  obtain ⟨f, fd, G, hm, hb⟩ := c.ex
  refine wE_of (pe_meth0 pe_star c.cl hm G hr hb .nil pass0 ht) (ho F A σ H s _ fun v F1 A1 H1 so O1 p1 x1 s1 r1 => ?_)
  obtain ⟨j, fs, rfl, g1, g2, p1⟩ := p1
  obtain ⟨ad, had, rfl⟩ := r1
  obtain ⟨dx, fv, h1, h2⟩ := s1.at g1 had
  exact ⟨ad, dx, fv, rfl, h1, (lookup_paired h2).1 g2, F1, A1, [.ptr j], O1, post, p1, s1.no, .cons ⟨ad, had, rfl⟩ .nil, fun v F3 A3 H3 sv O3 p3 x3 s3 r3 => q v F3 A3 H3 sv O3 p3 (x1.trans x3) (s1.back x3 s3) r3⟩
/-- o.f -/
theorem de_fld {C : Addr} {f : Str} (c : Cls X.K C) (n : NoAttr X.K C f) (ho : DE X a ρ O fun so O1 => ∃ j fs sv, so = .ptr j ∧ O1[j]? = some (.ins C fs) ∧ fs.lookup f = some sv ∧ post sv O1) (hb : attributeBase a f X.env (eval a X.env) = eval a X.env := by rfl) : DE X (.Attribute a f pos) ρ O post := fun F A σ H s Q q =>
  wE_of (pe_fld pe_star hb) (ho F A σ H s _ fun v F1 A1 H1 so O1 p1 x1 s1 r1 => by
    obtain ⟨j, fs, sv, rfl, g1, g2, p1⟩ := p1
    obtain ⟨ad, had, rfl⟩ := r1
    obtain ⟨dx, fv, h1, h2⟩ := s1.at g1 had
    obtain ⟨u, h3, h4⟩ := (lookup_paired h2).2 sv g2
    exact ⟨ad, C, dx, fv, u, rfl, h1, c, n, h3, q u F1 A1 H1 sv O1 p1 x1 s1 h4⟩)
/-- a tracked object that is nobody's -/
theorem SR.junk {K : PySem.W.Frag} {ρ : List SV} {O : Rs} {F : Hp} {A : List Addr} {σ : L2.St} {H : Hp} {p : Addr} {o : HO} (s : SR K ρ O F A σ H) (hn : H p = none) : SR K ρ O F A σ (upd H p o) :=
  ⟨fun b u e => by rw [upd_ne (ne_of_none (s.ex _ _ e) hn)]; exact s.ex _ _ e, s.own, s.nd, s.len, fun k b c h1 h2 => by
    have := (s.res k b c h1 h2).mono (B := []) (.refl F) (H' := upd H p o) fun u e => by rw [upd_ne (ne_of_none e hn)]; exact e
    rwa [List.append_nil] at this, s.sl, s.get⟩
theorem Xs.junk {F : Hp} {A : List Addr} {H : Hp} {p : Addr} {o : HO} (hn : H p = none) : Xs F A H F A (upd H p o) :=
  ⟨.refl _, fun _ _ e => .inl e, fun b u e _ => by rw [upd_ne (ne_of_none e hn)]; exact e, fun b e => by
    by_cases hb : b = p
    · subst hb; exact hn
    · rw [upd_ne hb] at e; exact e, [], by simp, by simp⟩
theorem make_core {S : List SV → Rs → Post → Prop} {C : Addr} {F1 : Hp} {A1 : List Addr} {σ : L2.St} {H1 : Hp} {O1 : Rs} {svs : List SV} {vs : List V} {Q : VK} {E : XK} (s1 : SR X.K ρ O1 F1 A1 σ H1) (r1 : RepVs X.K F1 A1 svs vs)
    (p1 : S (.ptr O1.length :: svs) (O1 ++ [.ins C []]) fun sv O2 => sv = .dat .none ∧ post (.ptr O1.length) O2)
    (q : ∀ v F' A' H' sv O', post sv O' → Xs F1 A1 H1 F' A' H' → SR X.K ρ O' F' A' σ H' → RepV X.K F' A' sv v → Q v H') :
    ∀ x dx, H1 x = none → H1 dx = none → dx ≠ x → spS X.K S (.ref x :: vs) (upd (upd H1 dx (.own x)) x (.ins C dx [])) (fun v H2 => v = .non ∧ Q (.ref x) H2) E := by
  intro x dx hx hdx ne
  have sj := s1.junk (o := .own x) hdx
  have xj : Xs F1 A1 H1 F1 A1 (upd H1 dx (.own x)) := .junk hdx
  have hx2 : (upd H1 dx (.own x)) x = none := by rw [upd_ne (Ne.symm ne)]; exact hx
  have sn := sj.new (c := .ins C []) (o := .ins C dx []) hx2 ⟨dx, [], upd_same, .nil⟩
  have xn : Xs F1 A1 H1 F1 (A1 ++ [x]) (upd (upd H1 dx (.own x)) x (.ins C dx [])) := xj.trans (.new hx2)
  have hp : (A1 ++ [x])[O1.length]? = some x := by rw [← s1.len]; simp
  refine ⟨F1, A1 ++ [x], _, _, _, p1, sn.no, .cons ⟨x, hp, rfl⟩ (r1.xs xn), fun v F2 A2 H2 sv O2 p2 x2 s2 r2 => ?_⟩
  obtain ⟨rfl, p2⟩ := p2
  cases r2
  obtain ⟨B, hA2, _⟩ := x2.p
  exact ⟨rfl, q _ F2 A2 H2 _ O2 p2 (xn.trans x2) ((s1.back (xn.trans x2) s2)) ⟨x, by rw [hA2]; exact preGet hp, rfl⟩⟩
theorem de_make {S : List SV → Rs → Post → Prop} {C : Addr} {x : Str} {k : Nat} {ps : List Str} (c : KCal X.prog X.w X.K X.mg X.base C x k ps (spS X.K S)) (hr : Room (k + 1) X.A) (hg : Gl X x)
    (ha : DAe X (e :: es) ρ O fun svs O1 => S (.ptr O1.length :: svs) (O1 ++ [.ins C []]) fun sv O2 => sv = .dat .none ∧ post (.ptr O1.length) O2) (hdb : (x == ("__debug__" : Str)) = false := by decide) (he : starEach (e :: es) X.env = (false, eval e X.env) :: starEach es X.env := by rfl) (hpl : (backTo pos (starEach es X.env)).any (·.1) = false := by rfl) : DE X (.Call (.Name x p0) (e :: es) [] pos) ρ O post := fun F A σ H s Q q => by
  obtain ⟨f, fd, G, hm, hb⟩ := c.ex
  refine wE_of (pe_make hm G hr hg c.mg hb .nil pass0 pa_star hdb he hpl) (ha F A σ H s _ fun vs F1 A1 H1 svs O1 p1 x1 s1 r1 => ?_)
  rw [List.append_nil]
  exact make_core s1 r1 p1 fun v F' A' H' sv O' p' x' => q v F' A' H' sv O' p' (x1.trans x')
theorem de_make0 {S : List SV → Rs → Post → Prop} {C : Addr} {x : Str} {k : Nat} {ps : List Str} (c : KCal X.prog X.w X.K X.mg X.base C x k ps (spS X.K S)) (hr : Room (k + 1) X.A) (hg : Gl X x)
    (ha : S [.ptr O.length] (O ++ [.ins C []]) fun sv O2 => sv = .dat .none ∧ post (.ptr O.length) O2) (hdb : (x == ("__debug__" : Str)) = false := by decide) : DE X (.Call (.Name x p0) [] [] pos) ρ O post := fun F A σ H s Q q => by
  obtain ⟨f, fd, G, hm, hb⟩ := c.ex
  exact wE_of (pe_make0 hm G hr hg c.mg hb .nil pass0 hdb) (make_core s .nil ha q)

/-! fresh lists -/
theorem de_own (h : DF X e (view ρ) ds) (k : post (.ptr O.length) (O ++ [.lst (ds.map .dat)])) : DE X e ρ O post := fun F A σ H s Q q => h F σ H s.ex s.view Q fun p vs F' H' x n1 n2 hl r => by
  have s1 := s.pure x
  have hA : p ∉ A := fun hp => by obtain ⟨o, z⟩ := s.tracked hp; rw [n2] at z; cases z
  have hp : (A ++ [p])[O.length]? = some p := by rw [← s.len]; simp
  have xs1 : Xs F A H F' A H' := .pure x
  refine q (.ref p) F' (A ++ [p]) H' _ _ k ⟨xs1.f, xs1.n, xs1.k, xs1.d, [p], rfl, fun b hb => by simp at hb; subst hb; exact n2⟩ ?_ ⟨p, hp, rfl⟩
  refine ⟨s1.ex, fun j b c h1 h2 h3 => ?_, ?_, by simp [s.len], fun j b c h1 h2 => ?_, s1.sl, fun i sv h1 h2 => ?_⟩
  · by_cases hj : j < O.length
    · rw [List.getElem?_append_left (by rw [s.len]; exact hj)] at h1
      rw [List.getElem?_append_left hj] at h2
      exact s1.own j b c h1 h2 h3
    · have hl' : j < (A ++ [p]).length := (List.getElem?_eq_some_iff.mp h1).1
      have : j = A.length := by rw [List.length_append] at hl'; simp at hl'; have := s.len; omega
      subst this
      simp at h1
      subst h1
      exact n1
  · rw [List.nodup_append]
    exact ⟨s.nd, by simp, fun x hx y hy => by simp at hy; subst hy; exact fun e => hA (e ▸ hx)⟩
  · by_cases hj : j < O.length
    · rw [List.getElem?_append_left (by rw [s.len]; exact hj)] at h1
      rw [List.getElem?_append_left hj] at h2
      exact (s1.res j b c h1 h2).mono (.refl F') fun u e => e
    · have hl' : j < (A ++ [p]).length := (List.getElem?_eq_some_iff.mp h1).1
      have e1 : j = A.length := by rw [List.length_append] at hl'; simp at hl'; have := s.len; omega
      subst e1
      simp at h1
      subst h1
      rw [s.len] at h2
      simp at h2
      subst h2
      exact ⟨vs, hl, reps_to r⟩
  · obtain ⟨v, e, r⟩ := s1.get i sv h1 h2
    exact ⟨v, e, r.mono (.refl F')⟩
theorem df_lst {δ : Dl} (h : DA X es δ ds) (hz : ds.length ≤ 1000 := by first | decide | simp) : DF X (.List es pos) δ ds := fun F σ H sm sl Q q =>
  wE_of (pe_lst pa_star) (h F σ H sm sl _ fun vs F1 H1 x1 rs => ⟨by rw [rs.len]; exact Nat.le_of_lt (small1000 hz), fun p hp =>
    q p vs F1 _ ⟨x1.f, x1.h.trans (same_new hp), x1.s.trans (same_new hp), x1.n⟩ (x1.s.free hp) (x1.h.free hp) upd_same rs⟩)
/-- list(xs), a copy -/
theorem df_list {δ : Dl} {x : Str} (hg : Gl X x) (hm : X.mg x = none) (hv : bootBuiltins x = some (.type "list")) (h : DP X a δ (.list ds)) (hn : x ≠ "__name__" := by decide) (hdb : (x == ("__debug__" : Str)) = false := by decide) (he : starEach [a] X.env = [(false, eval a X.env)] := by rfl) : DF X (.Call (.Name x p0) [a] [] pos) δ ds := fun F σ H sm sl Q q =>
  wE_of (pe_callTy call_list_of hg hm hv pa_star hn hdb he (by rfl)) (da_cons h da_nil he F σ H sm sl _ fun vs F1 H1 x1 rs => by
    cases rs with
    | cons r t =>
      cases t
      cases r with
      | @lst p0 vs1 _ h1 r1 => exact ⟨p0, vs1, rfl, .inl (SqL.of (x1.s _ _ h1)), fun p hp =>
          q p vs1 F1 _ ⟨x1.f, x1.h.trans (same_new hp), x1.s.trans (same_new hp), x1.n⟩ (x1.s.free hp) (x1.h.free hp) upd_same r1⟩)
end
end SS
set_option maxHeartbeats 4000000
/-! The data layer, seven: statements, loops, dicts, a def's promise from its body. -/
namespace SS
open PySem PySem.Spec PyProof.Rows L2

abbrev Nx := List SV → Rs → Prop
def w1 (X : Cx) (st : Stmt) : TS := fun D σ H => Hd (∀ (pins : List (Addr × Obj)) (s : Shared), Inv X pins σ H s → wpAny (model X.prog X.w) X.A (exec st X.env) (SP X pins D) X.xe s)
theorem ps_star {X : Cx} {st : Stmt} : PS X st (w1 X st) := ⟨fun pins s σ H D I h => h.un pins s I⟩
def DS (X : Cx) (st : List Stmt) (ρ : List SV) (O : Rs) (nx : Nx) (rt : Post) : Prop := ∀ (F : Hp) (A : List Addr) (σ : L2.St) (H : Hp), SR X.K ρ O F A σ H → ∀ D : Ends,
  (∀ ρ' O' F' A' σ' H', nx ρ' O' → Xs F A H F' A' H' → SR X.K ρ' O' F' A' σ' H' → D.nx σ' H') → (∀ sv O' v F' A' H', rt sv O' → Xs F A H F' A' H' → SR X.K [] O' F' A' [] H' → RepV X.K F' A' sv v → D.rt v H') → wSs X st D σ H
def setS : List (Nat × PyData) → List SV → List SV
  | p :: r, ρ => setS r (ρ.set p.1 (.dat p.2))
  | [], ρ => ρ
section
variable {X : Cx} {ρ : List SV} {O : Rs} {e a b o i : Expr} {st : Stmt} {rest body orelse : List Stmt} {nx : Nx} {rt : Post} {d : PyData} {ds : List PyData} {pos p0 pos' : Pos} {sv : SV} {te : TE}
theorem DS.mono {nx' : Nx} {rt' : Post} (h : DS X rest ρ O nx rt) (h1 : ∀ ρ' O', nx ρ' O' → nx' ρ' O') (h2 : ∀ sv O', rt sv O' → rt' sv O') : DS X rest ρ O nx' rt' := fun F A σ H s D q1 q2 => h F A σ H s D (fun ρ' O' F' A' σ' H' k => q1 ρ' O' F' A' σ' H' (h1 _ _ k)) (fun sv O' v F' A' H' k => q2 sv O' v F' A' H' (h2 _ _ k))
theorem ds_nil (k : nx ρ O) : DS X [] ρ O nx rt := fun F A σ H s D q1 q2 => wSs_of pss_nil (q1 ρ O F A σ H k .refl s)
/-- what follows, from a later state -/
theorem DS.go {F F1 : Hp} {A A1 : List Addr} {H H1 : Hp} {σ1 : L2.St} {ρ1 : List SV} {O1 : Rs} {D : Ends} (h : DS X rest ρ1 O1 nx rt) (x : Xs F A H F1 A1 H1) (s : SR X.K ρ1 O1 F1 A1 σ1 H1)
    (q1 : ∀ ρ' O' F' A' σ' H', nx ρ' O' → Xs F A H F' A' H' → SR X.K ρ' O' F' A' σ' H' → D.nx σ' H') (q2 : ∀ sv O' v F' A' H', rt sv O' → Xs F A H F' A' H' → SR X.K [] O' F' A' [] H' → RepV X.K F' A' sv v → D.rt v H') : wSs X rest D σ1 H1 :=
  h F1 A1 σ1 H1 s D (fun ρ' O' F' A' σ' H' k x' => q1 ρ' O' F' A' σ' H' k (x.trans x')) (fun sv O' v F' A' H' k x' => q2 sv O' v F' A' H' k (x.trans x'))
theorem ds_asg {g : TG} (hp : PS X st (tAsg te g)) (he : ∀ (F : Hp) (A : List Addr) (σ : L2.St) (H : Hp), SR X.K ρ O F A σ H → ∀ Q : VK, (∀ v F' A' H' sv O', (∀ D : Ends, (∀ ρ' O'' F'' A'' σ' H'', nx ρ' O'' → Xs F' A' H' F'' A'' H'' → SR X.K ρ' O'' F'' A'' σ' H'' → D.nx σ' H'') → (∀ sv O'' v F'' A'' H'', rt sv O'' → Xs F' A' H' F'' A'' H'' → SR X.K [] O'' F'' A'' [] H'' → RepV X.K F'' A'' sv v → D.rt v H'') → g v σ H' (wSs X rest D)) → Xs F A H F' A' H' → SR X.K ρ O' F' A' σ H' → RepV X.K F' A' sv v → Q v H') → te σ H Q) : DS X (st :: rest) ρ O nx rt := fun F A σ H s D q1 q2 =>
  wSs_of (pss_cons hp pss_star) (he F A σ H s _ fun v F1 A1 H1 sv O1 p x s1 r => p _ (fun ρ' O' F' A' σ' H' k x' => q1 ρ' O' F' A' σ' H' k (x.trans x')) (fun sv O' v F' A' H' k x' => q2 sv O' v F' A' H' k (x.trans x')))
/-- x = e -/
theorem ds_set (j : Nat) {x : Str} (hN : X.N.Nodup) (he : DE X e ρ O fun sv O' => DS X rest (ρ.set j sv) O' nx rt) (hi : X.N[j]? = some x := by rfl) (hx : Loc X.env.scope x := by first | exact Or.inl rfl | exact Or.inr rfl) (hs : swapsWith e (some (.Name x pos')) pos.line X.env = pure false := by rfl)
    (hf : X.fn x = true ∨ X.env.scope.names.lookup x = some .local := by first | exact .inl rfl | exact .inr rfl) : DS X (.Assign [.Name x pos'] e pos :: rest) ρ O nx rt := fun F A σ H s D q1 q2 =>
  wSs_of (pss_cons (ps_set (i := j) hN hi hx pe_star hs hf) pss_star) (he F A σ H s _ fun v F1 A1 H1 sv O1 p x1 s1 r => p.go x1 (s1.set r) q1 q2)
/-- x = [..], a list that is only read -/
theorem ds_setF (j : Nat) (hp : PS X st (tAsg te (gName j))) (he : DFt X.K te (view ρ) ds) (k : DS X rest (ρ.set j (.dat (.list ds))) O nx rt) : DS X (st :: rest) ρ O nx rt := fun F A σ H s D q1 q2 =>
  wSs_of (pss_cons hp pss_star) (he F σ H s.ex s.view _ fun p vs F1 H1 x n1 n2 hl r => by
    obtain ⟨x2, r2⟩ := fresh_xt x n1 n2 hl r
    exact k.go (.pure x2) ((s.pure x2).set (sv := .dat (.list ds)) r2) q1 q2)
theorem fresh_own {K : PySem.W.Frag} {F F' H H' : Hp} {A : List Addr} {σ : L2.St} {p : Addr} {vs : List V} (s : SR K ρ O F A σ H) (x : Xt F H F' H') (n1 : F' p = none) (n2 : H p = none) (hl : H' p = some (.lst vs)) (r : Reps K F' vs ds) :
    Xs F A H F' (A ++ [p]) H' ∧ SR K ρ (O ++ [.lst (ds.map .dat)]) F' (A ++ [p]) σ H' ∧ RepV K F' (A ++ [p]) (.ptr O.length) (.ref p) := by
  have s1 := s.pure x
  have hA : p ∉ A := fun hp => by obtain ⟨o, z⟩ := s.tracked hp; rw [n2] at z; cases z
  have hp : (A ++ [p])[O.length]? = some p := by rw [← s.len]; simp
  have xs1 : Xs F A H F' A H' := .pure x
  refine ⟨⟨xs1.f, xs1.n, xs1.k, xs1.d, [p], rfl, fun b hb => by simp at hb; subst hb; exact n2⟩, ?_, ⟨p, hp, rfl⟩⟩
  refine ⟨s1.ex, fun j b c h1 h2 h3 => ?_, ?_, by simp [s.len], fun j b c h1 h2 => ?_, s1.sl, fun i sv h1 h2 => ?_⟩
  · by_cases hj : j < O.length
    · rw [List.getElem?_append_left (by rw [s.len]; exact hj)] at h1
      rw [List.getElem?_append_left hj] at h2
      exact s1.own j b c h1 h2 h3
    · have hl' : j < (A ++ [p]).length := (List.getElem?_eq_some_iff.mp h1).1
      have : j = A.length := by rw [List.length_append] at hl'; simp at hl'; have := s.len; omega
      subst this
      simp at h1
      subst h1
      exact n1
  · rw [List.nodup_append]
    exact ⟨s.nd, by simp, fun x hx y hy => by simp at hy; subst hy; exact fun e => hA (e ▸ hx)⟩
  · by_cases hj : j < O.length
    · rw [List.getElem?_append_left (by rw [s.len]; exact hj)] at h1
      rw [List.getElem?_append_left hj] at h2
      exact (s1.res j b c h1 h2).mono (.refl F') fun u e => e
    · have hl' : j < (A ++ [p]).length := (List.getElem?_eq_some_iff.mp h1).1
      have e1 : j = A.length := by rw [List.length_append] at hl'; simp at hl'; have := s.len; omega
      subst e1
      simp at h1
      subst h1
      rw [s.len] at h2
      simp at h2
      subst h2
      exact ⟨vs, hl, reps_to r⟩
  · obtain ⟨v, e, r⟩ := s1.get i sv h1 h2
    exact ⟨v, e, r.mono (.refl F')⟩
/-- x = [..], a list that will change -/
theorem ds_setO (j : Nat) (hp : PS X st (tAsg te (gName j))) (he : DFt X.K te (view ρ) ds) (k : DS X rest (ρ.set j (.ptr O.length)) (O ++ [.lst (ds.map .dat)]) nx rt) : DS X (st :: rest) ρ O nx rt := fun F A σ H s D q1 q2 =>
  wSs_of (pss_cons hp pss_star) (he F σ H s.ex s.view _ fun p vs F1 H1 x n1 n2 hl r => by
    obtain ⟨x2, s2, r2⟩ := fresh_own s x n1 n2 hl r
    exact k.go x2 (s2.set r2) q1 q2)
/-- an owned list is only read from here on -/
theorem ds_freeze (k j : Nat) (h : ρ[j]? = some (.ptr k)) (ho : O[k]? = some (.lst (ds.map .dat))) (r : DS X rest (ρ.set j (.dat (.list ds))) (O.set k .dead) nx rt) : DS X rest ρ O nx rt := fun F A σ H s D q1 q2 => by
  obtain ⟨a, F', ha, x, s', rp⟩ := s.freeze ho
  obtain ⟨v, e1, a', ha', ev⟩ := s.get j _ h (by intro q; cases q)
  rw [ha] at ha'; cases ha'; subst ev
  have s2 := s'.set (i := j) (sv := .dat (.list ds)) rp
  have e2 : σ.set j (some (.ref a)) = σ := by
    apply List.ext_getElem?
    intro m
    by_cases hm : j = m
    · subst hm; rw [List.getElem?_set_self (List.getElem?_eq_some_iff.mp e1).1, e1]
    · rw [List.getElem?_set_ne hm]
  rw [e2] at s2
  exact r.go x s2 q1 q2
theorem ds_expr (he : DE X e ρ O fun _ O' => DS X rest ρ O' nx rt) (hs : swapsWith e none pos.line X.env = pure false := by rfl) : DS X (.Expr e pos :: rest) ρ O nx rt := fun F A σ H s D q1 q2 =>
  wSs_of (pss_cons (ps_expr pe_star hs) pss_star) (he F A σ H s _ fun v F1 A1 H1 sv O1 p x1 s1 r => p.go x1 s1 q1 q2)
theorem ds_ret (he : DE X e ρ O rt) : DS X (.Return (some e) pos :: rest) ρ O nx rt := fun F A σ H s D q1 q2 =>
  wSs_of (pss_cons (ps_ret pe_star) pss_star) (he F A σ H s _ fun v F1 A1 H1 sv O1 p x1 s1 r => q2 sv O1 v F1 A1 H1 p x1 s1.no r)
theorem ds_if (mid : Nx) (hc : DTe X e ρ O fun b O' => (b = true → DS X body ρ O' mid rt) ∧ (b = false → DS X orelse ρ O' mid rt)) (k : ∀ ρ' O', mid ρ' O' → DS X rest ρ' O' nx rt) : DS X (.If e body orelse pos :: rest) ρ O nx rt := fun F A σ H s D q1 q2 =>
  wSs_of (pss_cons (ps_if pt_star pss_star pss_star) pss_star) (hc F A σ H s _ fun F1 A1 H1 b O1 p x1 s1 => by
    have nxt : ∀ ρ' O' F' A' σ' H', mid ρ' O' → Xs F A H F' A' H' → SR X.K ρ' O' F' A' σ' H' → wSs X rest D σ' H' := fun ρ' O' F' A' σ' H' m x' s' => (k ρ' O' m).go x' s' q1 q2
    cases b with
    | true => exact iteT ((p.1 rfl).go (D := { D with nx := wSs X rest D }) x1 s1 nxt q2)
    | false => exact iteF ((p.2 rfl).go (D := { D with nx := wSs X rest D }) x1 s1 nxt q2))
/-- an if whose body leaves, or whose test is known -/
theorem ds_ifR (hc : DTe X e ρ O fun b O' => (b = true → DS X body ρ O' (fun _ _ => False) rt) ∧ (b = false → DS X rest ρ O' nx rt)) : DS X (.If e body [] pos :: rest) ρ O nx rt :=
  ds_if (mid := fun ρ' O' => DS X rest ρ' O' nx rt) (fun F A σ H s Q q => hc F A σ H s Q fun F' A' H' b O' p => q F' A' H' b O' ⟨fun hb => (p.1 hb).mono (fun _ _ z => z.elim) (fun _ _ z => z), fun hb => ds_nil (p.2 hb)⟩) fun _ _ h => h
theorem ds_never {st : Stmt} (h : False) : DS X (st :: rest) ρ O nx rt := h.elim
theorem setS_len : ∀ {ps : List (Nat × PyData)} {ρ : List SV}, (setS ps ρ).length = ρ.length
  | [], _ => rfl
  | p :: r, ρ => by show (setS r _).length = _; rw [setS_len]; simp
theorem SR.sets {K : PySem.W.Frag} {F : Hp} {A : List Addr} {H : Hp} : ∀ {ps : List (Nat × PyData)} {vs : List V} {ρ : List SV} {σ : L2.St}, SR K ρ O F A σ H → Reps K F vs (ps.map (·.2)) → SR K (setS ps ρ) O F A (setV (ps.map (·.1)) vs σ) H
  | [], vs, _, _, h, r => by cases vs <;> exact h
  | p :: ps, vs, ρ, σ, h, r => by
    cases r with
    | @cons v vs _ _ a t => exact SR.sets (ps := ps) (vs := vs) (h.set (i := p.1) (sv := .dat p.2) a) t
/-- a, b, .. = e -/
theorem ds_tup {tg : Expr} {ps : List (Nat × PyData)} (he : DE X e ρ O fun sv O' => ∃ d ps, sv = .dat d ∧ DG X tg d ps ∧ DS X rest (setS ps ρ) O' nx rt)
    (hs : swapsWithSole [tg] e pos.line X.env = pure false := by rfl) (hw : swappedStores [tg] e X.env = pure none := by rfl) (h1 : (assignEach [tg] X.env).map (·.2) = [assign tg X.env] := by rfl) : DS X (.Assign [tg] e pos :: rest) ρ O nx rt := fun F A σ H s D q1 q2 =>
  wSs_of (pss_cons (ps_asg pe_star pg_star hs hw h1) pss_star) (he F A σ H s _ fun v F1 A1 H1 sv O1 p x1 s1 r => by
    obtain ⟨d, ps, rfl, hg, p⟩ := p
    exact hg F1 σ H1 v s1.ex r _ fun vs rv => p.go x1 (s1.sets rv) q1 q2)
/-- o[i] = e, o an owned list -/
theorem ds_setitem (he : DE X e ρ O fun sv O1 => DE X o ρ O1 fun so O2 => ∃ k, so = .ptr k ∧ DE X i ρ O2 fun si O3 => ∃ n j xs, si = .dat (.int n) ∧ O3[k]? = some (.lst xs) ∧ ixN xs.length n = some j ∧ DS X rest ρ (O3.set k (.lst (xs.set j sv))) nx rt)
    (hs : swapsWithSole [.Subscript o i pos'] e pos.line X.env = pure false := by rfl) (hw : swappedStores [.Subscript o i pos'] e X.env = pure none := by rfl) (h1 : (assignEach [.Subscript o i pos'] X.env).map (·.2) = [assign (.Subscript o i pos') X.env] := by rfl)
    (ha : ∀ v, assign (.Subscript o i pos') X.env v = (do
      let ov ← holding [v] (eval o X.env)
      let iv ← holding [v, ov] (eval i X.env)
      standAt pos'
      holding [v, ov, iv] (setItem ov iv v)
      release [v, ov, iv] []) := by intro _; rfl) : DS X (.Assign [.Subscript o i pos'] e pos :: rest) ρ O nx rt := fun F A σ H s D q1 q2 =>
  wSs_of (pss_cons (ps_asg pe_star (pg_sub pe_star pe_star set_list ha) hs hw h1) pss_star) (he F A σ H s _ fun v F1 A1 H1 sv O1 p x1 s1 r1 => p F1 A1 σ H1 s1 _ fun ov F2 A2 H2 so O2 p x2 s2 r2 => by
    obtain ⟨k, rfl, p⟩ := p
    refine p F2 A2 σ H2 s2 _ fun iv F3 A3 H3 si O3 p x3 s3 r3 => ?_
    obtain ⟨n, j, xs, rfl, g1, g2, p⟩ := p
    cases r3
    obtain ⟨ad, had, rfl⟩ := r2
    obtain ⟨B, hA3, _⟩ := x3.p
    have had3 : A3[k]? = some ad := by rw [hA3]; exact preGet had
    obtain ⟨vs, h2, h3⟩ := s3.at g1 had3
    have setP : ∀ {xs : List SV} {vs : List V} {j : Nat}, RepVs X.K F3 A3 xs vs → RepV X.K F3 A3 sv v → RepVs X.K F3 A3 (xs.set j sv) (vs.set j v) := by
      intro xs
      induction xs with
      | nil => intro vs j h _; cases h; simp; exact .nil
      | cons x xs ih => intro vs j h hv; cases h with | cons r t => cases j with
        | zero => exact .cons hv t
        | succ j => exact .cons r (ih t hv)
    have w := s3.write (c := .lst (xs.set j sv)) (o := .lst (vs.set j v)) had3 (List.getElem?_eq_some_iff.mp g1).1 (by rw [g1]; intro q; cases q) ⟨_, upd_same, setP h3 ((r1.xs x2).xs x3)⟩
    exact ⟨ad, vs, n, j, rfl, rfl, h2, by rw [← show xs.length = vs.length from h3.length]; exact g2, p.go (((x1.trans x2).trans x3).trans (.write had3)) w q1 q2⟩)
/-- o.append(e) -/
theorem de_append {post : Post} {apos : Pos} (ho : DE X o ρ O fun so O1 => ∃ k ys, so = .ptr k ∧ O1[k]? = some (.lst ys) ∧ DE X e ρ O1 fun sv O2 => ∃ xs, O2[k]? = some (.lst xs) ∧ xs.length < 1000000 ∧ post (.dat .none) (O2.set k (.lst (xs ++ [sv]))))
    (hbase : attributeBase o "append" X.env (eval o X.env) = eval o X.env := by rfl)
    (hfew : ((backTo pos (starEach [e] X.env)).all (fun x => !x.1) && (backToKw pos (keywordEach [] X.env)).all (fun x => x.1.isSome)
      && decide ([e].length + ([] : List Keyword).length + (if ([] : List Keyword).isEmpty then 0 else 1) < 30)) = true := by rfl)
    (hline : (apos.endLine == pos.line) = true := by rfl) (hs : starEach [e] X.env = [(false, eval e X.env)] := by rfl) (hplain : (backTo pos (starEach [] X.env)).any (·.1) = false := by rfl) : DE X (.Call (.Attribute o "append" apos) [e] [] pos) ρ O post := fun F A σ H s Q q =>
  wE_of (pe_bm PySem.F.plainAttrs_list PySem.F.slot_list_append PySem.F.type_list_append mt_append pe_star (pa_cons pe_star pa_nil hs) hbase hfew hline hs hplain) (ho F A σ H s _ fun v F1 A1 H1 so O1 p x1 s1 r1 => by
    obtain ⟨k, ys, rfl, g1, p⟩ := p
    obtain ⟨ad, had, rfl⟩ := r1
    obtain ⟨us, h1, _⟩ := s1.at g1 had
    refine ⟨.inl ⟨rfl, us, SqL.of h1⟩, p F1 A1 σ H1 s1 _ fun w F2 A2 H2 sv O2 p x2 s2 r2 => ?_⟩
    obtain ⟨xs, g2, g3, p⟩ := p
    obtain ⟨B, hA2, _⟩ := x2.p
    have had2 : A2[k]? = some ad := by rw [hA2]; exact preGet had
    obtain ⟨vs, h2, h3⟩ := s2.at g2 had2
    have appP : RepVs X.K F2 A2 (xs ++ [sv]) (vs ++ [w]) := by
      clear g2 g3 p h2
      induction xs generalizing vs with
      | nil => cases h3; exact .cons r2 .nil
      | cons x xs ih => cases h3 with | cons r t => exact .cons r (ih _ t)
    have ww := s2.write (c := .lst (xs ++ [sv])) (o := .lst (vs ++ [w])) had2 (List.getElem?_eq_some_iff.mp g2).1 (by rw [g2]; intro q; cases q) ⟨_, upd_same, appP⟩
    exact ⟨ad, vs, w, rfl, rfl, h2, by rw [← show xs.length = vs.length from h3.length]; exact Nat.lt_of_lt_of_le g3 (by decide), q _ F2 A2 _ _ _ p ((x1.trans x2).trans (.write had2)) ww .non⟩)
/-- o.f = e -/
theorem ds_fld {C : Addr} {f : Str} (c : Cls X.K C) (n : NoAttr X.K C f) (he : DE X e ρ O fun sv O1 => DE X o ρ O1 fun so O2 => ∃ k fs, so = .ptr k ∧ O2[k]? = some (.ins C fs) ∧ fs.length < 900 ∧ fs.lookup f = none ∧ DS X rest ρ (O2.set k (.ins C (fs ++ [(f, sv)]))) nx rt)
    (hs : swapsWith e (some (.Attribute o f pos')) pos.line X.env = pure false := by rfl) : DS X (.Assign [.Attribute o f pos'] e pos :: rest) ρ O nx rt := fun F A σ H s D q1 q2 =>
  wSs_of (pss_cons (ps_fld pe_star pe_star hs) pss_star) (he F A σ H s _ fun v F1 A1 H1 sv O1 p x1 s1 r1 => p F1 A1 σ H1 s1 _ fun ov F2 A2 H2 so O2 p x2 s2 r2 => by
    obtain ⟨k, fs, rfl, g1, g2, g3, p⟩ := p
    obtain ⟨ad, had, rfl⟩ := r2
    obtain ⟨dx, fv, h1, h2⟩ := s2.at g1 had
    have hl : fs.length = fv.length := h2.length
    have put : ∀ {fs : List (Str × SV)} {fv : List (Str × V)}, Paired (fun (p : Str × SV) (q : Str × V) => p.1 = q.1 ∧ RepV X.K F2 A2 p.2 q.2) fs fv → fs.lookup f = none → Paired (fun (p : Str × SV) (q : Str × V) => p.1 = q.1 ∧ RepV X.K F2 A2 p.2 q.2) (fs ++ [(f, sv)]) (putF f v fv) := by
      intro fs
      induction fs with
      | nil => intro fv h _; cases h; exact .cons ⟨rfl, r1.xs x2⟩ .nil
      | cons x xs ih =>
        intro fv h hn
        cases h with
        | @cons p q _ fr r t =>
          have hx : (f == x.1) = false := by
            cases e1 : f == x.1 with
            | false => rfl
            | true => obtain ⟨xa, xb⟩ := x; simp only [List.lookup_cons, e1] at hn; cases hn
          have hn' : xs.lookup f = none := by obtain ⟨xa, xb⟩ := x; simp only [List.lookup_cons, hx] at hn; exact hn
          have hne : ¬ q.1 = f := fun z => by
            rw [← r.1] at z
            rw [z] at hx
            simp at hx
          obtain ⟨qa, qb⟩ := q
          have e2 : putF f v ((qa, qb) :: fr) = (qa, qb) :: putF f v fr := by simp only [putF]; rw [if_neg hne]
          rw [e2]
          exact .cons r (ih t hn')
    have w := s2.write (c := .ins C (fs ++ [(f, sv)])) (o := .ins C dx (putF f v fv)) had (List.getElem?_eq_some_iff.mp g1).1 (by rw [g1]; intro q; cases q) ⟨dx, _, upd_same, put h2 g3⟩
    exact ⟨ad, C, dx, fv, rfl, h1, c, n, by omega, p.go ((x1.trans x2).trans (.write had)) w q1 q2⟩)
end

/-! ### loops -/
def DIe (X : Cx) (tg iter : Expr) (ρ : List SV) (O : Rs) (post : List PyData → Rs → Prop) : Prop := ∀ (F : Hp) (A : List Addr) (σ : L2.St) (H : Hp), SR X.K ρ O F A σ H → ∀ R : It → Hp → Prop, (∀ J F' A' H' xs O', post xs O' → Xs F A H F' A' H' → SR X.K ρ O' F' A' σ H' → Yields X.K J xs F' → R J H') → wI X tg iter σ H R
section
variable {X : Cx} {ρ : List SV} {O : Rs} {e a b tg iter : Expr} {rest body : List Stmt} {nx : Nx} {rt : Post} {xs : List PyData} {pos p0 : Pos}
theorem die_pure {post : List PyData → Rs → Prop} (h : DI X tg iter (view ρ) xs) (k : post xs O) : DIe X tg iter ρ O post := fun F A σ H s R q => h F σ H s.ex s.view R fun J F' H' x y => q J F' A H' xs O k (.pure x) (s.pure x) y
theorem die_rng1 {post : List PyData → Rs → Prop} (hg : Gl X "range") (hm : X.mg "range" = none) (ha : DE X a ρ O fun sv O1 => ∃ n : Int, sv = .dat (.int n) ∧ 0 ≤ n ∧ n ≤ 1000000 ∧ post (rngD 0 n.toNat) O1) (hs : starEach [a] X.env = [(false, eval a X.env)] := by rfl) : DIe X tg (.Call (.Name "range" p0) [a] [] pos) ρ O post := fun F A σ H s R q =>
  wI_of (pi_range1 hg hm pa_star hs) (wA_of (pa_cons pe_star pa_nil hs) (ha F A σ H s _ fun v F1 A1 H1 sv O1 p x1 s1 r => by
    obtain ⟨n, rfl, h1, h2, p⟩ := p
    cases r
    exact ⟨n, rfl, by omega, by omega, q _ F1 A1 H1 _ O1 p x1 s1 yields_rng⟩))
theorem ds_for (hi : DIe X tg iter ρ O fun xs O1 => ∃ I : Nat → Nx, I 0 ρ O1 ∧ (∀ i x ρ' O', xs[i]? = some x → I i ρ' O' → ∃ ps, DG X tg x ps ∧ DS X body (setS ps ρ') O' (I (i + 1)) rt) ∧ ∀ ρ' O', I xs.length ρ' O' → DS X rest ρ' O' nx rt)
    (hp : PassesOwn (model X.prog X.w) X.A X.env X.xe := by exact PassesOwn.never) (hc : X.calm = true := by rfl) (hs : ∀ x, foldedSetIterable iter X.env x = pure x := by intro _; rfl) : DS X (.For tg iter body [] pos :: rest) ρ O nx rt := fun F A σ H s D q1 q2 =>
  wSs_of (pss_cons (ps_for hp hc pi_star pg_star pss_star hs) pss_star) (hi F A σ H s _ fun J F1 A1 H1 xs O1 p x1 s1 y => by
    obtain ⟨I, h0, ht, hd⟩ := p
    refine ⟨fun i m σ2 H2 => m = xs.length - i ∧ i ≤ xs.length ∧ ∃ ρ2 O2 F2 A2, I i ρ2 O2 ∧ Xs F1 A1 H1 F2 A2 H2 ∧ SR X.K ρ2 O2 F2 A2 σ2 H2, ⟨xs.length, by simp, Nat.zero_le _, ρ, O1, F1, A1, h0, .refl, s1⟩, ?_⟩
    rintro i m σ2 H2 ⟨rfl, hle, ρ2, O2, F2, A2, hI, x2, s2⟩
    obtain ⟨y1, y2⟩ := y i F2 H2 x2.f s2.ex
    by_cases hlt : i < xs.length
    · have hx : xs[i]? = some xs[i] := List.getElem?_eq_getElem hlt
      obtain ⟨g1, g2⟩ := y1 _ hx
      refine .inr ⟨g1, fun σ' H' => i + 1 ≤ xs.length ∧ ∃ ρ2 O2 F2 A2, I (i + 1) ρ2 O2 ∧ Xs F1 A1 H1 F2 A2 H' ∧ SR X.K ρ2 O2 F2 A2 σ' H', fun σ' H' h => ⟨xs.length - (i + 1), by omega, rfl, h.1, h.2⟩, fun v H3 hy => ?_⟩
      obtain ⟨F3, x3, rv⟩ := g2 v H3 hy
      obtain ⟨ps, hg, hb⟩ := ht i _ ρ2 O2 hx hI
      have s3 := s2.pure x3
      have x3' : Xs F1 A1 H1 F3 A2 H3 := x2.trans (.pure x3)
      refine hg F3 σ2 H3 v x3.s rv _ fun vs ru => ?_
      exact hb.go x3' (s3.sets ru) (fun ρ' O' F' A' σ' H' k x' s' => ⟨hlt, ρ', O', F', A', k, x', s'⟩) (fun sv O' v F' A' H' k x' => q2 sv O' v F' A' H' k (x1.trans x'))
    · have ei : i = xs.length := by omega
      subst ei
      exact .inl ⟨y2 rfl, (hd ρ2 O2 hI).go (x1.trans x2) s2 q1 q2⟩)
theorem ds_while (I : Nx) (μ : List SV → Rs → Nat) (h0 : I ρ O) (ht : ∀ ρ' O', I ρ' O' → DTe X e ρ' O' fun b O2 => (b = true → DS X body ρ' O2 (fun ρ3 O3 => I ρ3 O3 ∧ μ ρ3 O3 < μ ρ' O') rt) ∧ (b = false → DS X rest ρ' O2 nx rt))
    (hp : PassesOwn (model X.prog X.w) X.A X.env X.xe := by exact PassesOwn.never) : DS X (.While e body [] pos :: rest) ρ O nx rt := fun F A σ H s D q1 q2 =>
  wSs_of (pss_cons (ps_while hp pt_star pss_star) pss_star) (by
    refine ⟨fun m σ2 H2 => ∃ ρ2 O2 F2 A2, m = μ ρ2 O2 ∧ I ρ2 O2 ∧ Xs F A H F2 A2 H2 ∧ SR X.K ρ2 O2 F2 A2 σ2 H2, ⟨_, ρ, O, F, A, rfl, h0, .refl, s⟩, ?_⟩
    rintro m σ2 H2 ⟨ρ2, O2, F2, A2, rfl, hI, x2, s2⟩
    refine ht ρ2 O2 hI F2 A2 σ2 H2 s2 _ fun F3 A3 H3 b O3 p x3 s3 => ?_
    cases b with
    | true =>
      refine iteT ⟨fun σ' H' => ∃ ρ3 O3 F3 A3, (I ρ3 O3 ∧ μ ρ3 O3 < μ ρ2 O2) ∧ Xs F A H F3 A3 H' ∧ SR X.K ρ3 O3 F3 A3 σ' H', fun σ' H' ⟨ρ3, O3, F3, A3, k, x', s'⟩ => ⟨_, k.2, ρ3, O3, F3, A3, rfl, k.1, x', s'⟩, ?_⟩
      exact (p.1 rfl).go (x2.trans x3) s3 (fun ρ' O' F' A' σ' H' k x' s' => ⟨ρ', O', F', A', k, x', s'⟩) q2
    | false => exact iteF ((p.2 rfl).go (x2.trans x3) s3 q1 q2))
end

/-! ### a def's promise from its body -/
abbrev startS (n : Nat) (svs : List SV) : List SV := svs ++ List.replicate (n - svs.length) .un
abbrev bX (P : Program) (w : World) (K : PySem.W.Frag) (mg : Str → Option Value) (base : Heap) (N : List Str) (qual : Str) (st : Stmt) (f : Addr) (cdv : Value) (A : Around) (outer : List Env) (s : Shared) (H : Hp) (E : XK) : Cx :=
  (cxOf CX0 P w K mg base N qual (defScope st) f cdv A outer s H E).nox
theorem SR.start {K : PySem.W.Frag} {svs : List SV} {vs : List V} {O : Rs} {F : Hp} {A : List Addr} {H : Hp} {N : List Str} (s : SR K [] O F A [] H) (r : RepVs K F A svs vs) (hn : svs.length ≤ N.length) : SR K (startS N.length svs) O F A (L2.start N vs) H := by
  have hl : svs.length = vs.length := r.length
  refine s.slots (by simp [startS, L2.start]; omega) fun i sv h1 h2 => ?_
  have get : ∀ {xs : List SV} {us : List V} {j : Nat} {u : SV}, RepVs K F A xs us → xs[j]? = some u → ∃ v, us[j]? = some v ∧ RepV K F A u v := by
    intro xs
    induction xs with
    | nil => intro vs j u h e; simp at e
    | cons x xs ih => intro vs j u h e; cases h with | cons r t => cases j with
      | zero => simp at e; subst e; exact ⟨_, rfl, r⟩
      | succ j => simpa using ih t (by simpa using e)
  unfold startS at h1
  by_cases hi : i < svs.length
  · rw [List.getElem?_append_left hi] at h1
    obtain ⟨v, e1, e2⟩ := get r h1
    refine ⟨v, ?_, e2⟩
    unfold L2.start
    rw [List.getElem?_append_left (by rw [List.length_map, ← hl]; exact hi), List.getElem?_map, e1]
    rfl
  · rw [List.getElem?_append_right (by omega), List.getElem?_replicate] at h1
    split at h1
    · cases h1; exact absurd rfl h2
    · cases h1
section
variable {P : Program} {w : World} {K : PySem.W.Frag} {mg : Str → Option Value} {base : Heap} {x qual : Str} {st : Stmt} {f : Addr} {fd : FuncData} {N ps : List Str} {k : Nat}
theorem fn_P {R : List PyData → PyData → Prop} (Fn : Fun K x qual st f fd) (S : FnScope N ps (defScope st)) (hl : ∀ ds d, R ds d → ds.length = ps.length) (hN : ps.length ≤ N.length)
    (body : ∀ (cdv : Value) (A : Around) (outer : List Env) (s : Shared) (H : Hp) (E : XK), Room k (A.deeper (envOfC qual (defScope st) s.heap.objs.size f cdv)) → ∀ ds d, R ds d →
      DS (bX P w K mg base N qual st f cdv A outer s H E) (defBody st) (startS N.length (ds.map .dat)) [] (fun _ _ => d = .none) fun sv _ => sv = .dat d) : FnOk P w K mg base CX0 (k + 1) f fd ps (spP K R) := by
  refine Fn.ok S (fun vs H Q E h => ?_) (fun cdv A outer s H vs Q E hr h => ⟨_, pss_star, ?_⟩)
  · obtain ⟨F, ds, d, hR, _, r, _⟩ := h
    rw [r.len]; exact hl ds d hR
  · obtain ⟨F, ds, d, hR, sm, r, q⟩ := h
    have hd := hl ds d hR
    have s0 : SR K (startS N.length (ds.map .dat)) [] F [] (L2.start N vs) H := (SR.nil sm).start (reps_to r) (by rw [List.length_map]; omega)
    have fin : ∀ {F' A' H' v}, Xs F [] H F' A' H' → (∃ O', SR K [] O' F' A' [] H') → Rep K F' v d → Q v H' := fun {F' A' H' v} x ⟨O', s'⟩ rv =>
      q v F' H' ⟨x.f, fun a o e => x.k a o e (by simp), s'.ex, fun a o e => by
        rcases x.n a o e with z | z | z
        · exact .inl z
        · exact .inr z
        · cases z⟩ rv
    exact body cdv A outer s H E hr ds d hR F [] _ H s0 _ (fun ρ' O' F' A' σ' H' e x' s' => fin x' ⟨O', s'.no⟩ (by rw [e]; exact .non)) (fun sv O' v F' A' H' e x' s' rv => fin x' ⟨O', s'⟩ (by subst e; exact rv))
/-- what does not point beyond the first n objects -/
def SV.below (n : Nat) : SV → Prop
  | .ptr k => k < n
  | _ => True
def Ow.below (n : Nat) : Ow → Prop
  | .lst xs => ∀ x ∈ xs, x.below n
  | .dT kvs => ∀ x ∈ kvs, x.2.below n
  | .dK kvs => ∀ x ∈ kvs, x.2.below n
  | .ins _ fs => ∀ x ∈ fs, x.2.below n
  | .dead => True
theorem RepV.cut {F : Hp} {A : List Addr} {sv : SV} {v : V} {n : Nat} (h : RepV K F A sv v) (hb : sv.below n) : RepV K F (A.take n) sv v := by
  cases sv with
  | dat d => exact h
  | ptr j => obtain ⟨a, h1, h2⟩ := h; exact ⟨a, by rw [List.getElem?_take_of_lt hb]; exact h1, h2⟩
  | raw u => exact h
  | un => exact h
theorem pairedCut {α β : Type} {P Q : α → β → Prop} : ∀ {xs : List α} {ys : List β}, Paired P xs ys → (∀ a ∈ xs, ∀ b, P a b → Q a b) → Paired Q xs ys
  | _, _, .nil, _ => .nil
  | _, _, .cons r t, h => .cons (h _ List.mem_cons_self _ r) (pairedCut t fun a ha => h a (List.mem_cons_of_mem _ ha))
theorem SR.cut {O : Rs} {F : Hp} {A : List Addr} {H : Hp} (n : Nat) (s : SR K [] O F A [] H) (hb : ∀ c ∈ O.take n, c.below n) : SR K [] (O.take n) F (A.take n) [] H := by
  have lt : ∀ {α : Type} {l : List α} {j : Nat} {a : α}, (l.take n)[j]? = some a → j < n ∧ l[j]? = some a := fun {α l j a} h => by
    rw [List.getElem?_take] at h
    split at h
    · exact ⟨by assumption, h⟩
    · cases h
  refine ⟨s.ex, fun j a c h1 h2 h3 => s.own j a c (lt h1).2 (lt h2).2 h3, s.nd.sublist (List.take_sublist _ _), by simp [s.len], fun j a c h1 h2 => ?_, rfl, fun i sv h => by simp at h⟩
  have hc := hb c (List.mem_of_getElem? h2)
  have r := s.res j a c (lt h1).2 (lt h2).2
  cases c with
  | lst xs => obtain ⟨vs, g1, g2⟩ := r; exact ⟨vs, g1, pairedCut g2 fun a ha b r => r.cut (hc a ha)⟩
  | dT xs => obtain ⟨vs, g1, g2⟩ := r; exact ⟨vs, g1, pairedCut g2 fun a ha b r => ⟨r.1, r.2.cut (hc a ha)⟩⟩
  | dK xs => obtain ⟨vs, g1, g2⟩ := r; exact ⟨vs, g1, pairedCut g2 fun a ha b r => ⟨r.1, r.2.cut (hc a ha)⟩⟩
  | ins C xs => obtain ⟨dx, vs, g1, g2⟩ := r; exact ⟨dx, vs, g1, pairedCut g2 fun a ha b r => ⟨r.1, r.2.cut (hc a ha)⟩⟩
  | dead => exact r
/-- the post of a body: the objects that it leaves to nobody are forgotten -/
def Cut (O : Rs) (post : Post) : Post := fun sv O' => ∃ n, O.length ≤ n ∧ sv.below n ∧ (∀ c ∈ O'.take n, c.below n) ∧ post sv (O'.take n)
theorem Cut.all {O O' : Rs} {post : Post} {sv : SV} (h : post sv O') (hl : O.length ≤ O'.length) (h1 : sv.below O'.length) (h2 : ∀ c ∈ O', c.below O'.length) : Cut O post sv O' := ⟨O'.length, hl, h1, by rw [List.take_length]; exact h2, by rw [List.take_length]; exact h⟩
theorem fn_S {S : List SV → Rs → Post → Prop} (Fn : Fun K x qual st f fd) (Sc : FnScope N ps (defScope st)) (hl : ∀ svs O post, S svs O post → svs.length = ps.length) (hN : ps.length ≤ N.length)
    (body : ∀ (cdv : Value) (A : Around) (outer : List Env) (s : Shared) (H : Hp) (E : XK), Room k (A.deeper (envOfC qual (defScope st) s.heap.objs.size f cdv)) → ∀ svs O post, S svs O post →
      DS (bX P w K mg base N qual st f cdv A outer s H E) (defBody st) (startS N.length svs) O (fun _ O' => Cut O post (.dat .none) O') (Cut O post)) : FnOk P w K mg base CX0 (k + 1) f fd ps (spS K S) := by
  refine Fn.ok Sc (fun vs H Q E h => ?_) (fun cdv A outer s H vs Q E hr h => ⟨_, pss_star, ?_⟩)
  · obtain ⟨F, A, svs, O, post, hS, _, r, _⟩ := h
    rw [← show svs.length = vs.length from r.length]; exact hl svs O post hS
  · obtain ⟨F, A0, svs, O, post, hS, s0, r, q⟩ := h
    have hd := hl svs O post hS
    have s1 : SR K (startS N.length svs) O F A0 (L2.start N vs) H := s0.start r (by omega)
    have fin : ∀ {F' A' H' v sv O'}, Cut O post sv O' → Xs F A0 H F' A' H' → SR K [] O' F' A' [] H' → RepV K F' A' sv v → Q v H' := fun {F' A' H' v sv O'} c x s' rv => by
      obtain ⟨n, h1, h2, h3, h4⟩ := c
      obtain ⟨B, hA, hB⟩ := x.p
      have hn : A0.length ≤ n := by rw [s0.len]; exact h1
      refine q v F' (A'.take n) H' sv _ h4 ⟨x.f, x.n, x.k, x.d, B.take (n - A0.length), ?_, fun b hb => hB b (List.mem_of_mem_take hb)⟩ (s'.cut n h3) (rv.cut h2)
      rw [hA, List.take_append, List.take_of_length_le hn]
    exact body cdv A outer s H E hr svs O post hS F A0 _ H s1 _ (fun ρ' O' F' A' σ' H' e x' s' => fin e x' s'.no .non) (fun sv O' v F' A' H' e x' s' rv => fin e x' s' rv)
end
/-- a def as it stands behind the top -/
structure Df (K : PySem.W.Frag) (mg : Str → Option Value) (x name : Str) (st : Stmt) (ps : List Str) : Prop where
  ex : ∃ (f : Addr) (fd : FuncData), Fun K name name st f fd ∧ mg x = some (.ref f) ∧ Binds K fd ps []
structure Mf (K : PySem.W.Frag) (C : Addr) (m qual : Str) (st : Stmt) (ps : List Str) : Prop where
  ex : ∃ (f : Addr) (fd : FuncData), Fun K m qual st f fd ∧ Meth K C m f ∧ Binds K fd ps []
section
variable {P : Program} {w : World} {K : PySem.W.Frag} {mg : Str → Option Value} {base : Heap} {x name : Str} {st : Stmt} {N ps : List Str} {k : Nat}
theorem cal_P {R : List PyData → PyData → Prop} (D : Df K mg x name st ps) (S : FnScope N ps (defScope st)) (hl : ∀ ds d, R ds d → ds.length = ps.length) (hN : ps.length ≤ N.length)
    (body : ∀ (f : Addr) (cdv : Value) (A : Around) (outer : List Env) (s : Shared) (H : Hp) (E : XK), Room k (bX P w K mg base N name st f cdv A outer s H E).A → ∀ ds d, R ds d →
      DS (bX P w K mg base N name st f cdv A outer s H E) (defBody st) (startS N.length (ds.map .dat)) [] (fun _ _ => d = .none) fun sv _ => sv = .dat d) : Cal P w K mg base x (k + 1) ps (spP K R) :=
  let ⟨f, fd, F, hm, hb⟩ := D.ex
  ⟨f, fd, fn_P F S hl hN fun cdv A outer s H E hr ds d h => body f cdv A outer s H E hr ds d h, hm, F.kp, hb⟩
theorem cal_S {Sp : List SV → Rs → Post → Prop} (D : Df K mg x name st ps) (S : FnScope N ps (defScope st)) (hl : ∀ svs O post, Sp svs O post → svs.length = ps.length) (hN : ps.length ≤ N.length)
    (body : ∀ (f : Addr) (cdv : Value) (A : Around) (outer : List Env) (s : Shared) (H : Hp) (E : XK), Room k (bX P w K mg base N name st f cdv A outer s H E).A → ∀ svs O post, Sp svs O post →
      DS (bX P w K mg base N name st f cdv A outer s H E) (defBody st) (startS N.length svs) O (fun _ O' => Cut O post (.dat .none) O') (Cut O post)) : Cal P w K mg base x (k + 1) ps (spS K Sp) :=
  let ⟨f, fd, F, hm, hb⟩ := D.ex
  ⟨f, fd, fn_S F S hl hN fun cdv A outer s H E hr ds d h => body f cdv A outer s H E hr ds d h, hm, F.kp, hb⟩
theorem mcal_S {C : Addr} {m qual : Str} {Sp : List SV → Rs → Post → Prop} (D : Mf K C m qual st ps) (cl : Cls K C) (S : FnScope N ps (defScope st)) (hl : ∀ svs O post, Sp svs O post → svs.length = ps.length) (hN : ps.length ≤ N.length)
    (body : ∀ (f : Addr) (cdv : Value) (A : Around) (outer : List Env) (s : Shared) (H : Hp) (E : XK), Room k (bX P w K mg base N qual st f cdv A outer s H E).A → ∀ svs O post, Sp svs O post →
      DS (bX P w K mg base N qual st f cdv A outer s H E) (defBody st) (startS N.length svs) O (fun _ O' => Cut O post (.dat .none) O') (Cut O post)) : MCal P w K mg base C m (k + 1) ps (spS K Sp) :=
  let ⟨f, fd, F, hm, hb⟩ := D.ex
  ⟨⟨f, fd, fn_S F S hl hN fun cdv A outer s H E hr ds d h => body f cdv A outer s H E hr ds d h, hm, hb⟩, cl⟩
end
end SS
set_option maxHeartbeats 4000000
/-! zip of two, of three: lists, tuples, texts in any mix, a new tuple at each turn. -/
namespace SS
open PySem PySem.Spec PyProof.Rows L2
inductive Zk where
  | lst (a : Addr) | tup (a : Addr) | str (z : Str)
def Zk.st : Zk → Addr → Nat → Heap → Prop
  | .lst a, it, i, h => h.IsListIter it a i
  | .tup a, it, i, h => h.IsTupleIter it a i
  | .str z, it, i, h => ∃ t, h.IsStrIter it (strIterType z) z t i
def Zk.ok (K : PySem.W.Frag) (H : Hp) : Zk → List V → Prop
  | .lst a, xs => SqL K H a xs
  | .tup a, xs => SqT K H a xs
  | .str z, xs => xs = z.cps.toList.map fun c => V.str ⟨#[c]⟩
def Zk.cells : Zk → List Addr
  | .lst a => [a]
  | .tup a => [a]
  | .str _ => []
def Zk.val : Zk → V → Prop
  | .lst a, v => v = .ref a
  | .tup a, v => v = .ref a
  | .str z, v => v = .str z
theorem Zk.st_at {k : Zk} {it : Addr} {i : Nat} {h h' : Heap} (st : k.st it i h) (e : ∀ o, h.get? it = some o → h'.get? it = some o) : k.st it i h' := by
  cases k with
  | lst a => exact Heap.IsListIter.at st e
  | tup a => obtain ⟨o, ho, r⟩ := st; exact ⟨o, e o ho, r⟩
  | str z => obtain ⟨t, o, ho, r⟩ := st; exact ⟨t, o, e o ho, r⟩
theorem Zk.st_obj {k : Zk} {it : Addr} {i : Nat} {h : Heap} (st : k.st it i h) : ∃ o, h.get? it = some o ∧ ∀ v, o.data ≠ .cell v := by
  cases k with
  | lst a => obtain ⟨o, ho, _, d⟩ := st; exact ⟨o, ho, fun v q => by rw [d] at q; cases q⟩
  | tup a => obtain ⟨o, ho, _, d⟩ := st; exact ⟨o, ho, fun v q => by rw [d] at q; cases q⟩
  | str z => obtain ⟨t, o, ho, _, d⟩ := st; exact ⟨o, ho, fun v q => by rw [d] at q; cases q⟩
section
variable {X : Cx} {pins : List (Addr × Obj)} {σ : L2.St} {H : Hp} {s : Shared}
theorem Zk.inj (I : Inv X pins σ H s) {k : Zk} {xs ys : List V} (h : k.ok X.K H xs) (h' : k.ok X.K H ys) : xs = ys := by
  cases k with
  | lst a => exact I.list_inj h h'
  | tup a => exact I.tuple_inj h h'
  | str z => exact Eq.trans h (Eq.symm h')
theorem Zk.draws (I : Inv X pins σ H s) {k : Zk} {xs : List V} (h : k.ok X.K H xs) {A : Around} (hh : A.handled = none) (it : Addr) (ne : ∀ a ∈ k.cells, a ≠ it) {i : Nat} (st : k.st it i s.heap) :
    ∃ (P : Nat → Value → Prop) (St : Nat → Heap → Prop), Draws X.prog X.w A it (it :: k.cells) xs.length P St ∧ St i s.heap ∧ (∀ j h', St j h' → k.st it j h') ∧ ∀ j v, P j v → ∃ x, xs[j]? = some x ∧ RelV x v := by
  cases k with
  | lst a =>
    obtain ⟨its, rv, p, _⟩ := I.list h
    have D := Draws.list (prog := X.prog) (w := X.w) hh it a (ne a (by simp [Zk.cells])) its.toArray
    rw [show its.toArray.size = xs.length by rw [rv.length]; simp] at D
    refine ⟨_, _, D, ⟨st, p.isList⟩, fun j h' q => q.1, fun j v q => ?_⟩
    have hl : j < xs.length := by
      have : j < its.toArray.size := by
        rcases Nat.lt_or_ge j its.toArray.size with z | z
        · exact z
        · rw [Array.getElem?_eq_none z] at q; cases q
      rw [rv.length]; simpa using this
    obtain ⟨u, hu, ru⟩ := rv.get (List.getElem?_eq_getElem hl)
    have : its[j]? = some v := by simpa using q
    rw [hu] at this; cases this
    exact ⟨_, List.getElem?_eq_getElem hl, ru⟩
  | tup a =>
    obtain ⟨its, rv, p, _⟩ := I.tuple h
    have D := Draws.tuple (prog := X.prog) (w := X.w) hh it a (ne a (by simp [Zk.cells])) its.toArray
    rw [show its.toArray.size = xs.length by rw [rv.length]; simp] at D
    refine ⟨_, _, D, ⟨st, p⟩, fun j h' q => q.1, fun j v q => ?_⟩
    have hl : j < xs.length := by
      have : j < its.toArray.size := by
        rcases Nat.lt_or_ge j its.toArray.size with z | z
        · exact z
        · rw [Array.getElem?_eq_none z] at q; cases q
      rw [rv.length]; simpa using this
    obtain ⟨u, hu, ru⟩ := rv.get (List.getElem?_eq_getElem hl)
    have : its[j]? = some v := by simpa using q
    rw [hu] at this; cases this
    exact ⟨_, List.getElem?_eq_getElem hl, ru⟩
  | str z =>
    obtain ⟨t, st⟩ := st
    have D := Draws.text (prog := X.prog) (w := X.w) hh it z t
    have hx : xs = z.cps.toList.map fun c => V.str ⟨#[c]⟩ := h
    rw [show z.cps.size = xs.length by rw [hx]; simp] at D
    refine ⟨_, _, D, st, fun j h' q => ⟨t, q⟩, fun j v q => ?_⟩
    obtain ⟨c, u, e1, e2⟩ := q
    refine ⟨.str ⟨#[c]⟩, ?_, ⟨u, e2⟩⟩
    rw [hx, List.getElem?_map]
    have : z.cps.toList[j]? = some c := by simpa using e1
    rw [this]; rfl
theorem Zk.lt (I : Inv X pins σ H s) {k : Zk} {xs : List V} (h : k.ok X.K H xs) : ∀ a ∈ k.cells, a < s.heap.objs.size := by
  cases k with
  | lst a => obtain ⟨its, rv, p, _⟩ := I.list h; intro b hb; simp [Zk.cells] at hb; subst hb; exact p.lt
  | tup a => obtain ⟨its, rv, p, _⟩ := I.tuple h; intro b hb; simp [Zk.cells] at hb; subst hb; exact p.lt
  | str z => intro b hb; cases hb
theorem Zk.begins (I : Inv X pins σ H s) {k : Zk} {xs : List V} {v : V} {u : Value} (h : k.ok X.K H xs) (hv : k.val v) (r : RelV v u) : ∃ (o : Obj) (Hy : Heap → Prop), Begins u o Hy ∧ Hy s.heap ∧ ∀ (it : Addr) (h' : Heap), h'.get? it = some o → k.st it 0 h' := by
  cases k with
  | lst a =>
    obtain ⟨its, rv, p, _⟩ := I.list h
    obtain rfl : v = .ref a := hv
    obtain rfl : u = .ref a := r
    exact ⟨_, _, begins_list a its.toArray, p.isList, fun it h' e => ⟨_, e, rfl, rfl⟩⟩
  | tup a =>
    obtain ⟨its, rv, p, _⟩ := I.tuple h
    obtain rfl : v = .ref a := hv
    obtain rfl : u = .ref a := r
    exact ⟨_, _, begins_tuple a its.toArray, p, fun it h' e => ⟨_, e, rfl, rfl⟩⟩
  | str z =>
    obtain rfl : v = .str z := hv
    obtain ⟨t, rfl⟩ : ∃ t, u = .str z t := r
    exact ⟨_, _, begins_text z t, trivial, fun it h' e => ⟨t, _, e, rfl, rfl⟩⟩
end
def Iz2 (K : PySem.W.Frag) (k1 k2 : Zk) : It :=
  ⟨fun i H => ∃ (xs ys : List V) (x y : V), k1.ok K H xs ∧ k2.ok K H ys ∧ xs[i]? = some x ∧ ys[i]? = some y,
    fun i H v H' => ∃ T x y, v = .ref T ∧ H T = none ∧ H' = upd H T (.tup [x, y]) ∧ (∀ xs, k1.ok K H xs → xs[i]? = some x) ∧ ∀ ys, k2.ok K H ys → ys[i]? = some y,
    fun i H => ∃ xs ys : List V, k1.ok K H xs ∧ k2.ok K H ys ∧ i ≤ xs.length ∧ i ≤ ys.length ∧ (i = xs.length ∨ i = ys.length)⟩
theorem turn_zip2 {P : Program} {w : World} {K : PySem.W.Frag} {elts : List Expr} {kk : Nat} {tpos : Pos} {k1 k2 : Zk} {z TI TO i1 i2 : Addr} (D : ZipSep2 z TI TO i1 i2 (i1 :: k1.cells) (i2 :: k2.cells)) (ne1 : ∀ a ∈ k1.cells, a ≠ i1) (ne2 : ∀ a ∈ k2.cells, a ≠ i2) :
    Turn P w K (.Tuple elts kk tpos) (Iz2 K k1 k2) [z, TI, TO, i1, i2] z (fun i h => IsZip h z TI TO .none ∧ IsTupOf2 h TI (.ref i1) (.ref i2) ∧ (∃ x y, IsTupOf2 h TO x y) ∧ k1.st i1 i h ∧ k2.st i2 i h) where
  mem := by simp
  obj := fun i h st c hc => by
    obtain ⟨hz, hTI, ⟨x, y, hTO⟩, h1, h2⟩ := st
    have e' : c = z ∨ c = TI ∨ c = TO ∨ c = i1 ∨ c = i2 := by simpa using hc
    rcases e' with q | q | q | q | q
    · rw [q]; exact ⟨_, hz, fun v q => nomatch q⟩
    · rw [q]; exact ⟨_, hTI, fun v q => nomatch q⟩
    · rw [q]; exact ⟨_, hTO, fun v q => nomatch q⟩
    · rw [q]; exact Zk.st_obj h1
    · rw [q]; exact Zk.st_obj h2
  keep := fun i h h' st k => by
    obtain ⟨hz, hTI, ⟨x, y, hTO⟩, h1, h2⟩ := st
    exact ⟨k z (by simp) _ hz, k TI (by simp) _ hTI, ⟨x, y, k TO (by simp) _ hTO⟩, Zk.st_at h1 fun o q => k i1 (by simp) o q, Zk.st_at h2 fun o q => k i2 (by simp) o q⟩
  item := by
    intro X hP hw hK hc i pins s σ H E I hf st hg
    subst hP hw hK
    obtain ⟨hz, hTI, ⟨x0, y0, hTO⟩, h1, h2⟩ := st
    obtain ⟨xs, ys, x, y, hqx, hqy, hx, hy⟩ := hg
    have hh : X.A.in1.handled = none := I.ok.hd hc
    obtain ⟨P1, St1, D1, s1, b1, v1⟩ := Zk.draws I hqx hh i1 ne1 h1
    obtain ⟨P2, St2, D2, s2, b2, v2⟩ := Zk.draws I hqy hh i2 ne2 h2
    have hzl : z < s.heap.objs.size := Heap.lt_size hz
    have l1 : i < xs.length := (List.getElem?_eq_some_iff.mp hx).1
    have l2 : i < ys.length := (List.getElem?_eq_some_iff.mp hy).1
    refine wpAny_pyNext_zipD2_item D D1 D2 hz hTI hTO s1 s2 l1 l2 fun u1 u2 h' tk p1 p2 z' TO' st1' st2' hT hsz hk => ?_
    obtain ⟨xa, ea, ra⟩ := v1 i u1 p1
    obtain ⟨xb, eb, rb⟩ := v2 i u2 p2
    rw [hx] at ea; cases ea
    rw [hy] at eb; cases eb
    refine ⟨_, rfl, wpAny_letOwnedTupleGo_zip (s := { s with heap := h', toks := tk }) z' fun h'' z'' sb => ?_⟩
    have hT2 : h''.get? s.heap.objs.size = some { cls := .type "tuple", data := .seq #[u1, u2] } := (sb.2 _ (Nat.ne_of_gt hzl)).trans hT
    have new : ObjOk X.prog X.w (upd H s.heap.objs.size (.tup [x, y])) h'' s.heap.objs.size (.tup [x, y]) :=
      ⟨by show 2 ≤ sizeLine; decide, [u1, u2], .cons ra (.cons rb .nil), ⟨_, hT2, rfl, _, rfl⟩⟩
    have I1 : Inv X pins σ (upd H s.heap.objs.size (.tup [x, y])) { s with heap := h'', toks := tk } :=
      I.turnedNew (t' := tk) (ch := [z, TI, TO, i1, i2]) (fun c o hb q => (sb.2 c (fun q' => hb (by simp [q']))).trans (hk c o (fun q' => hb (by simp [q'])) (fun q' => hb (by simp [q'])) (fun q' => hb (by simp [q'])) (fun q' => hb (by simp [q'])) q)) hf (Nat.le_refl _) new
    refine ⟨.ref s.heap.objs.size, _, I1, rfl, ⟨_, x, y, rfl, I.hok.fresh (Nat.le_refl _), rfl, fun l hl => by rw [Zk.inj I hl hqx]; exact hx, fun l hl => by rw [Zk.inj I hl hqy]; exact hy⟩, ⟨z'', ?_, ⟨u1, u2, ?_⟩, ?_, ?_⟩, fun c hcm => ?_⟩
    · exact (sb.2 _ D.TIz).trans (hk _ _ D.TIz D.TITO D.TIi1 D.TIi2 hTI)
    · exact (sb.2 _ D.TOz).trans TO'
    · exact Zk.st_at (b1 _ _ st1') fun o q => (sb.2 _ (Ne.symm D.zi1)).trans q
    · exact Zk.st_at (b2 _ _ st2') fun o q => (sb.2 _ (Ne.symm D.zi2)).trans q
    · have hlt : c < s.heap.objs.size := by
        have e' : c = z ∨ c = TI ∨ c = TO ∨ c = i1 ∨ c = i2 := by simpa using hcm
        rcases e' with q | q | q | q | q
        · rw [q]; exact hzl
        · rw [q]; exact Heap.lt_size hTI
        · rw [q]; exact Heap.lt_size hTO
        · rw [q]; obtain ⟨o, e1, _⟩ := Zk.st_obj h1; exact Heap.lt_size e1
        · rw [q]; obtain ⟨o, e2, _⟩ := Zk.st_obj h2; exact Heap.lt_size e2
      rw [upd_ne (Nat.ne_of_lt hlt)]
      exact (hf c hcm).1
  done := by
    intro X hP hw hK hc i pins s σ H E I hf st hg
    subst hP hw hK
    obtain ⟨hz, hTI, ⟨x0, y0, hTO⟩, h1, h2⟩ := st
    obtain ⟨xs, ys, hqx, hqy, e1, e2, e3⟩ := hg
    have hh : X.A.in1.handled = none := I.ok.hd hc
    obtain ⟨P1, St1, D1, s1, b1, v1⟩ := Zk.draws I hqx hh i1 ne1 h1
    obtain ⟨P2, St2, D2, s2, b2, v2⟩ := Zk.draws I hqy hh i2 ne2 h2
    exact wpAny_pyNext_zipD2_end D D1 D2 hz hTI hTO s1 s2 e1 e2 e3 fun h' tk hk => ⟨rfl, I.turnedL (t' := tk) (ch := [z, TI, TO, i1, i2]) (fun c o hb q =>
      hk c o (fun q' => hb (by simp [q'])) (fun q' => hb (by simp [q'])) (fun q' => hb (by simp [q'])) (fun q' => hb (by simp [q'])) q) hf⟩
  self := fun A i s Q E st h => wpAny_pyIter_zip st.1 h
def iZ2 (K : PySem.W.Frag) (ta : TA) : TI := fun σ H R => ta σ H fun vs H1 => ∃ v1 v2 k1 k2 xs ys, vs = [v1, v2] ∧ Zk.val k1 v1 ∧ Zk.val k2 v2 ∧ Zk.ok K H1 k1 xs ∧ Zk.ok K H1 k2 ys ∧ R (Iz2 K k1 k2) H1
theorem pi_zip2 {X : Cx} {e e2 : Expr} {ta : TA} {p pos tpos : Pos} {elts : List Expr} {kk : Nat} (hg : Gl X "zip") (hm : X.mg "zip" = none) (ha : PA X [e, e2] ta)
    (hs : starEach [e, e2] X.env = (false, eval e X.env) :: starEach [e2] X.env := by rfl) (hpl : (backTo pos (starEach [e2] X.env)).any (·.1) = false := by rfl) :
    PI X (.Tuple elts kk tpos) (.Call (.Name "zip" p) [e, e2] [] pos) (iZ2 X.K ta) := by
  refine ⟨fun pins s σ H R I h => ?_⟩
  refine Call_ (ld_blt I hg hm PyProof.Rows.boot_zip (PyProof.Rows.callWith_type1 (thn (ha.run pos pins s σ H _ I h) fun us s1 ⟨vs, H1, I1, r1, q1⟩ => ?_) hs hpl))
  obtain ⟨v1, v2, k1, k2, xs, ys, rfl, hv1, hv2, hqx, hqy, q⟩ := q1
  obtain ⟨u1, u2, rfl, ru1, ru2⟩ := vals2 r1
  obtain ⟨o1, Y1, B1, y1, g1⟩ := Zk.begins I1 hqx hv1 ru1
  obtain ⟨o2, Y2, B2, y2, g2⟩ := Zk.begins I1 hqy hv2 ru2
  have lt1 := Zk.lt I1 hqx
  have lt2 := Zk.lt I1 hqy
  refine zip_begins2 B1 B2 y1 y2 fun h' hz hTI hTO h1 h2 hsz hk => wpAny_pyIter_zip hz ?_
  have I2 : Inv X pins σ H1 { s1 with heap := h' } := I1.kept (t' := s1.toks) hk
  refine ⟨s1.heap.objs.size + 4, [s1.heap.objs.size + 4, s1.heap.objs.size + 2, s1.heap.objs.size + 3, s1.heap.objs.size, s1.heap.objs.size + 1], _, _, H1, rfl, I2, turn_zip2 (zip_sep2 lt1 lt2) (fun a ha => Nat.ne_of_lt (lt1 a ha)) (fun a ha => Nat.ne_of_lt (Nat.lt_succ_of_lt (lt2 a ha))), ⟨hz, hTI, ⟨_, _, hTO⟩, g1 _ _ h1, g2 _ _ h2⟩, fun c hcm => ?_, q⟩
  have e' : c = s1.heap.objs.size + 4 ∨ c = s1.heap.objs.size + 2 ∨ c = s1.heap.objs.size + 3 ∨ c = s1.heap.objs.size ∨ c = s1.heap.objs.size + 1 := by simpa using hcm
  have hle : s1.heap.objs.size ≤ c := by
    rcases e' with z | z | z | z | z
    · rw [z]; exact Nat.le_add_right _ _
    · rw [z]; exact Nat.le_add_right _ _
    · rw [z]; exact Nat.le_add_right _ _
    · rw [z]; exact Nat.le_refl _
    · rw [z]; exact Nat.le_add_right _ _
  exact I1.fpOk hle (I1.hok.fresh hle)
/-! three -/
def Iz3 (K : PySem.W.Frag) (k1 k2 k3 : Zk) : It :=
  ⟨fun i H => ∃ (xs ys zs : List V) (x y u : V), k1.ok K H xs ∧ k2.ok K H ys ∧ k3.ok K H zs ∧ xs[i]? = some x ∧ ys[i]? = some y ∧ zs[i]? = some u,
    fun i H v H' => ∃ T x y u, v = .ref T ∧ H T = none ∧ H' = upd H T (.tup [x, y, u]) ∧ (∀ xs, k1.ok K H xs → xs[i]? = some x) ∧ (∀ ys, k2.ok K H ys → ys[i]? = some y) ∧ ∀ zs, k3.ok K H zs → zs[i]? = some u,
    fun i H => ∃ xs ys zs : List V, k1.ok K H xs ∧ k2.ok K H ys ∧ k3.ok K H zs ∧ i ≤ xs.length ∧ i ≤ ys.length ∧ i ≤ zs.length ∧ (i = xs.length ∨ i = ys.length ∨ i = zs.length)⟩
theorem turn_zip3 {P : Program} {w : World} {K : PySem.W.Frag} {elts : List Expr} {kk : Nat} {tpos : Pos} {k1 k2 k3 : Zk} {z TI TO i1 i2 i3 : Addr} (D : ZipSep3 z TI TO i1 i2 i3 (i1 :: k1.cells) (i2 :: k2.cells) (i3 :: k3.cells)) (ne1 : ∀ a ∈ k1.cells, a ≠ i1) (ne2 : ∀ a ∈ k2.cells, a ≠ i2) (ne3 : ∀ a ∈ k3.cells, a ≠ i3) :
    Turn P w K (.Tuple elts kk tpos) (Iz3 K k1 k2 k3) [z, TI, TO, i1, i2, i3] z (fun i h => IsZip h z TI TO .none ∧ IsTupOf3 h TI (.ref i1) (.ref i2) (.ref i3) ∧ (∃ x y u, IsTupOf3 h TO x y u) ∧ k1.st i1 i h ∧ k2.st i2 i h ∧ k3.st i3 i h) where
  mem := by simp
  obj := fun i h st c hc => by
    obtain ⟨hz, hTI, ⟨x, y, u, hTO⟩, h1, h2, h3⟩ := st
    have e' : c = z ∨ c = TI ∨ c = TO ∨ c = i1 ∨ c = i2 ∨ c = i3 := by simpa using hc
    rcases e' with q | q | q | q | q | q
    · rw [q]; exact ⟨_, hz, fun v q => nomatch q⟩
    · rw [q]; exact ⟨_, hTI, fun v q => nomatch q⟩
    · rw [q]; exact ⟨_, hTO, fun v q => nomatch q⟩
    · rw [q]; exact Zk.st_obj h1
    · rw [q]; exact Zk.st_obj h2
    · rw [q]; exact Zk.st_obj h3
  keep := fun i h h' st k => by
    obtain ⟨hz, hTI, ⟨x, y, u, hTO⟩, h1, h2, h3⟩ := st
    exact ⟨k z (by simp) _ hz, k TI (by simp) _ hTI, ⟨x, y, u, k TO (by simp) _ hTO⟩, Zk.st_at h1 fun o q => k i1 (by simp) o q, Zk.st_at h2 fun o q => k i2 (by simp) o q, Zk.st_at h3 fun o q => k i3 (by simp) o q⟩
  item := by
    intro X hP hw hK hc i pins s σ H E I hf st hg
    subst hP hw hK
    obtain ⟨hz, hTI, ⟨x0, y0, u0, hTO⟩, h1, h2, h3⟩ := st
    obtain ⟨xs, ys, zs, x, y, u, hqx, hqy, hqz, hx, hy, hu⟩ := hg
    have hh : X.A.in1.handled = none := I.ok.hd hc
    obtain ⟨P1, St1, D1, s1, b1, v1⟩ := Zk.draws I hqx hh i1 ne1 h1
    obtain ⟨P2, St2, D2, s2, b2, v2⟩ := Zk.draws I hqy hh i2 ne2 h2
    obtain ⟨P3, St3, D3, s3, b3, v3⟩ := Zk.draws I hqz hh i3 ne3 h3
    have hzl : z < s.heap.objs.size := Heap.lt_size hz
    have l1 : i < xs.length := (List.getElem?_eq_some_iff.mp hx).1
    have l2 : i < ys.length := (List.getElem?_eq_some_iff.mp hy).1
    have l3 : i < zs.length := (List.getElem?_eq_some_iff.mp hu).1
    refine wpAny_pyNext_zipD3_item D D1 D2 D3 hz hTI hTO s1 s2 s3 l1 l2 l3 fun u1 u2 u3 h' tk p1 p2 p3 z' TO' st1' st2' st3' hT hsz hk => ?_
    obtain ⟨xa, ea, ra⟩ := v1 i u1 p1
    obtain ⟨xb, eb, rb⟩ := v2 i u2 p2
    obtain ⟨xc, ec, rc⟩ := v3 i u3 p3
    rw [hx] at ea; cases ea
    rw [hy] at eb; cases eb
    rw [hu] at ec; cases ec
    refine ⟨_, rfl, wpAny_letOwnedTupleGo_zip (s := { s with heap := h', toks := tk }) z' fun h'' z'' sb => ?_⟩
    have hT2 : h''.get? s.heap.objs.size = some { cls := .type "tuple", data := .seq #[u1, u2, u3] } := (sb.2 _ (Nat.ne_of_gt hzl)).trans hT
    have new : ObjOk X.prog X.w (upd H s.heap.objs.size (.tup [x, y, u])) h'' s.heap.objs.size (.tup [x, y, u]) :=
      ⟨by show 3 ≤ sizeLine; decide, [u1, u2, u3], .cons ra (.cons rb (.cons rc .nil)), ⟨_, hT2, rfl, _, rfl⟩⟩
    have I1 : Inv X pins σ (upd H s.heap.objs.size (.tup [x, y, u])) { s with heap := h'', toks := tk } :=
      I.turnedNew (t' := tk) (ch := [z, TI, TO, i1, i2, i3]) (fun c o hb q => (sb.2 c (fun q' => hb (by simp [q']))).trans (hk c o (fun q' => hb (by simp [q'])) (fun q' => hb (by simp [q'])) (fun q' => hb (by simp [q'])) (fun q' => hb (by simp [q'])) (fun q' => hb (by simp [q'])) q)) hf (Nat.le_refl _) new
    refine ⟨.ref s.heap.objs.size, _, I1, rfl, ⟨_, x, y, u, rfl, I.hok.fresh (Nat.le_refl _), rfl, fun l hl => by rw [Zk.inj I hl hqx]; exact hx, fun l hl => by rw [Zk.inj I hl hqy]; exact hy, fun l hl => by rw [Zk.inj I hl hqz]; exact hu⟩, ⟨z'', ?_, ⟨u1, u2, u3, ?_⟩, ?_, ?_, ?_⟩, fun c hcm => ?_⟩
    · exact (sb.2 _ D.TIz).trans (hk _ _ D.TIz D.TITO D.TIi1 D.TIi2 D.TIi3 hTI)
    · exact (sb.2 _ D.TOz).trans TO'
    · exact Zk.st_at (b1 _ _ st1') fun o q => (sb.2 _ (Ne.symm D.zi1)).trans q
    · exact Zk.st_at (b2 _ _ st2') fun o q => (sb.2 _ (Ne.symm D.zi2)).trans q
    · exact Zk.st_at (b3 _ _ st3') fun o q => (sb.2 _ (Ne.symm D.zi3)).trans q
    · have hlt : c < s.heap.objs.size := by
        have e' : c = z ∨ c = TI ∨ c = TO ∨ c = i1 ∨ c = i2 ∨ c = i3 := by simpa using hcm
        rcases e' with q | q | q | q | q | q
        · rw [q]; exact hzl
        · rw [q]; exact Heap.lt_size hTI
        · rw [q]; exact Heap.lt_size hTO
        · rw [q]; obtain ⟨o, e1, _⟩ := Zk.st_obj h1; exact Heap.lt_size e1
        · rw [q]; obtain ⟨o, e2, _⟩ := Zk.st_obj h2; exact Heap.lt_size e2
        · rw [q]; obtain ⟨o, e2, _⟩ := Zk.st_obj h3; exact Heap.lt_size e2
      rw [upd_ne (Nat.ne_of_lt hlt)]
      exact (hf c hcm).1
  done := by
    intro X hP hw hK hc i pins s σ H E I hf st hg
    subst hP hw hK
    obtain ⟨hz, hTI, ⟨x0, y0, u0, hTO⟩, h1, h2, h3⟩ := st
    obtain ⟨xs, ys, zs, hqx, hqy, hqz, e1, e2, e3, e4⟩ := hg
    have hh : X.A.in1.handled = none := I.ok.hd hc
    obtain ⟨P1, St1, D1, s1, b1, v1⟩ := Zk.draws I hqx hh i1 ne1 h1
    obtain ⟨P2, St2, D2, s2, b2, v2⟩ := Zk.draws I hqy hh i2 ne2 h2
    obtain ⟨P3, St3, D3, s3, b3, v3⟩ := Zk.draws I hqz hh i3 ne3 h3
    exact wpAny_pyNext_zipD3_end D D1 D2 D3 hz hTI hTO s1 s2 s3 e1 e2 e3 e4 fun h' tk hk => ⟨rfl, I.turnedL (t' := tk) (ch := [z, TI, TO, i1, i2, i3]) (fun c o hb q =>
      hk c o (fun q' => hb (by simp [q'])) (fun q' => hb (by simp [q'])) (fun q' => hb (by simp [q'])) (fun q' => hb (by simp [q'])) (fun q' => hb (by simp [q'])) q) hf⟩
  self := fun A i s Q E st h => wpAny_pyIter_zip st.1 h
theorem vals3 {x y z : V} {us : List Value} (r : Vals [x, y, z] us) : ∃ u w v, us = [u, w, v] ∧ RelV x u ∧ RelV y w ∧ RelV z v := by
  cases r with | cons r1 t => cases t with | cons r2 t => cases t with | cons r3 t => cases t; exact ⟨_, _, _, rfl, r1, r2, r3⟩
def iZ3 (K : PySem.W.Frag) (ta : TA) : TI := fun σ H R => ta σ H fun vs H1 => ∃ v1 v2 v3 k1 k2 k3 xs ys zs, vs = [v1, v2, v3] ∧ Zk.val k1 v1 ∧ Zk.val k2 v2 ∧ Zk.val k3 v3 ∧ Zk.ok K H1 k1 xs ∧ Zk.ok K H1 k2 ys ∧ Zk.ok K H1 k3 zs ∧ R (Iz3 K k1 k2 k3) H1
theorem pi_zip3 {X : Cx} {e e2 e3 : Expr} {ta : TA} {p pos tpos : Pos} {elts : List Expr} {kk : Nat} (hg : Gl X "zip") (hm : X.mg "zip" = none) (ha : PA X [e, e2, e3] ta)
    (hs : starEach [e, e2, e3] X.env = (false, eval e X.env) :: starEach [e2, e3] X.env := by rfl) (hpl : (backTo pos (starEach [e2, e3] X.env)).any (·.1) = false := by rfl) :
    PI X (.Tuple elts kk tpos) (.Call (.Name "zip" p) [e, e2, e3] [] pos) (iZ3 X.K ta) := by
  refine ⟨fun pins s σ H R I h => ?_⟩
  refine Call_ (ld_blt I hg hm PyProof.Rows.boot_zip (PyProof.Rows.callWith_type1 (thn (ha.run pos pins s σ H _ I h) fun us s1 ⟨vs, H1, I1, r1, q1⟩ => ?_) hs hpl))
  obtain ⟨v1, v2, v3, k1, k2, k3, xs, ys, zs, rfl, hv1, hv2, hv3, hqx, hqy, hqz, q⟩ := q1
  obtain ⟨u1, u2, u3, rfl, ru1, ru2, ru3⟩ := vals3 r1
  obtain ⟨o1, Y1, B1, y1, g1⟩ := Zk.begins I1 hqx hv1 ru1
  obtain ⟨o2, Y2, B2, y2, g2⟩ := Zk.begins I1 hqy hv2 ru2
  obtain ⟨o3, Y3, B3, y3, g3⟩ := Zk.begins I1 hqz hv3 ru3
  have lt1 := Zk.lt I1 hqx
  have lt2 := Zk.lt I1 hqy
  have lt3 := Zk.lt I1 hqz
  refine zip_begins3 B1 B2 B3 y1 y2 y3 fun h' hz hTI hTO h1 h2 h3 hsz hk => wpAny_pyIter_zip hz ?_
  have I2 : Inv X pins σ H1 { s1 with heap := h' } := I1.kept (t' := s1.toks) hk
  refine ⟨s1.heap.objs.size + 5, [s1.heap.objs.size + 5, s1.heap.objs.size + 3, s1.heap.objs.size + 4, s1.heap.objs.size, s1.heap.objs.size + 1, s1.heap.objs.size + 2], _, _, H1, rfl, I2,
    turn_zip3 (zip_sep3 lt1 lt2 lt3) (fun a ha => Nat.ne_of_lt (lt1 a ha)) (fun a ha => Nat.ne_of_lt (Nat.lt_succ_of_lt (lt2 a ha))) (fun a ha => Nat.ne_of_lt (Nat.lt_succ_of_lt (Nat.lt_succ_of_lt (lt3 a ha)))), ⟨hz, hTI, ⟨_, _, _, hTO⟩, g1 _ _ h1, g2 _ _ h2, g3 _ _ h3⟩, fun c hcm => ?_, q⟩
  have e' : c = s1.heap.objs.size + 5 ∨ c = s1.heap.objs.size + 3 ∨ c = s1.heap.objs.size + 4 ∨ c = s1.heap.objs.size ∨ c = s1.heap.objs.size + 1 ∨ c = s1.heap.objs.size + 2 := by simpa using hcm
  have hle : s1.heap.objs.size ≤ c := by
    rcases e' with z | z | z | z | z | z
    · rw [z]; exact Nat.le_add_right _ _
    · rw [z]; exact Nat.le_add_right _ _
    · rw [z]; exact Nat.le_add_right _ _
    · rw [z]; exact Nat.le_refl _
    · rw [z]; exact Nat.le_add_right _ _
    · rw [z]; exact Nat.le_add_right _ _
  exact I1.fpOk hle (I1.hok.fresh hle)
end SS
set_option maxHeartbeats 4000000
/-! The data layer, eight: built-ins by name; zips; more walks. -/
namespace SS
open PySem PySem.Spec PyProof.Rows L2

/-- the module does not write these names -/
structure Bi (mg : Str → Option Value) : Prop where
  len : mg "len" = none
  abs : mg "abs" = none
  max : mg "max" = none
  min : mg "min" = none
  int : mg "int" = none
  str : mg "str" = none
  bool : mg "bool" = none
  sum : mg "sum" = none
  any : mg "any" = none
  all : mg "all" = none
  list : mg "list" = none
  tuple : mg "tuple" = none
  isinstance : mg "isinstance" = none
  range : mg "range" = none
  reversed : mg "reversed" = none
  enumerate : mg "enumerate" = none
  zip : mg "zip" = none
theorem boot_abs : bootBuiltins "abs" = some (.builtin "abs") := by decide +kernel
theorem boot_any : bootBuiltins "any" = some (.builtin "any") := by decide +kernel
theorem boot_all : bootBuiltins "all" = some (.builtin "all") := by decide +kernel
section
variable {X : Cx} {δ : Dl} {a b c e : Expr} {es : List Expr} {pos p0 p1 : Pos} {d d1 d2 : PyData} {ds : List PyData} {i j : Int} {p q : Bool}
theorem dp_len (B : Bi X.mg) (h : DP X a δ (.list ds)) (hg : Gl X "len" := by rfl) (he : starEach [a] X.env = [(false, eval a X.env)] := by rfl) : DP X (.Call (.Name "len" p0) [a] [] pos) δ (.int ds.length) := dp_callB call_len_seq hg B.len PySem.boot_len (da_cons h da_nil he) rc_len (by decide) (by decide) he (by rfl)
theorem dp_lenT (B : Bi X.mg) (h : DP X a δ (.tuple ds)) (hg : Gl X "len" := by rfl) (he : starEach [a] X.env = [(false, eval a X.env)] := by rfl) : DP X (.Call (.Name "len" p0) [a] [] pos) δ (.int ds.length) := dp_callB call_len_seq hg B.len PySem.boot_len (da_cons h da_nil he) rc_lenT (by decide) (by decide) he (by rfl)
theorem dp_lenS (B : Bi X.mg) {z : Str} (h : DP X a δ (.str z)) (hz : z.length ≤ sizeLine) (hg : Gl X "len" := by rfl) (he : starEach [a] X.env = [(false, eval a X.env)] := by rfl) : DP X (.Call (.Name "len" p0) [a] [] pos) δ (.int z.length) := dp_callB call_len_str hg B.len PySem.boot_len (da_cons h da_nil he) (rc_lenS hz) (by decide) (by decide) he (by rfl)
theorem dp_abs (B : Bi X.mg) (h : DP X a δ (.int i)) (hg : Gl X "abs" := by rfl) (he : starEach [a] X.env = [(false, eval a X.env)] := by rfl) : DP X (.Call (.Name "abs" p0) [a] [] pos) δ (.int (if i < 0 then -i else i)) := dp_callB call_abs hg B.abs boot_abs (da_cons h da_nil he) rc_abs (by decide) (by decide) he (by rfl)
theorem dp_max2 (B : Bi X.mg) (h : DP X a δ (.int i)) (h2 : DP X b δ (.int j)) (hc : X.calm = true := by rfl) (hg : Gl X "max" := by rfl) (he : starEach [a, b] X.env = (false, eval a X.env) :: starEach [b] X.env := by rfl) (he2 : starEach [b] X.env = [(false, eval b X.env)] := by rfl) : DP X (.Call (.Name "max" p0) [a, b] [] pos) δ (.int (if j > i then j else i)) := dp_callB (call_max2 hc) hg B.max boot_max (da_cons h (da_cons h2 da_nil he2) he) rc_max2 (by decide) (by decide) he (by rw [he2]; rfl)
theorem dp_min2 (B : Bi X.mg) (h : DP X a δ (.int i)) (h2 : DP X b δ (.int j)) (hc : X.calm = true := by rfl) (hg : Gl X "min" := by rfl) (he : starEach [a, b] X.env = (false, eval a X.env) :: starEach [b] X.env := by rfl) (he2 : starEach [b] X.env = [(false, eval b X.env)] := by rfl) : DP X (.Call (.Name "min" p0) [a, b] [] pos) δ (.int (if j < i then j else i)) := dp_callB (call_min2 hc) hg B.min boot_min (da_cons h (da_cons h2 da_nil he2) he) rc_min2 (by decide) (by decide) he (by rw [he2]; rfl)
theorem dp_intB (B : Bi X.mg) (h : DP X a δ (.bool p)) (hg : Gl X "int" := by rfl) (he : starEach [a] X.env = [(false, eval a X.env)] := by rfl) : DP X (.Call (.Name "int" p0) [a] [] pos) δ (.int (if p then 1 else 0)) := dp_callTy call_int1 hg B.int PyProof.Rows.boot_int (da_cons h da_nil he) rc_intB (by decide) (by decide) he (by rfl)
theorem dp_intS (B : Bi X.mg) {z : Str} {n : Int} (h : DP X a δ (.str z)) (hn : PySem.intText? z = some n) (hz : z.length ≤ 640) (hg : Gl X "int" := by rfl) (he : starEach [a] X.env = [(false, eval a X.env)] := by rfl) : DP X (.Call (.Name "int" p0) [a] [] pos) δ (.int n) := dp_callTy call_int_str hg B.int PyProof.Rows.boot_int (da_cons h da_nil he) (rc_intS hn hz) (by decide) (by decide) he (by rfl)
theorem dp_strI (B : Bi X.mg) (h : DP X a δ (.int i)) (hn : i.natAbs.log2 < 1920) (hg : Gl X "str" := by rfl) (he : starEach [a] X.env = [(false, eval a X.env)] := by rfl) : DP X (.Call (.Name "str" p0) [a] [] pos) δ (.str (Str.ofString (toString i))) := dp_callTy call_str_int hg B.str PyProof.Rows.boot_str (da_cons h da_nil he) (rc_strI hn) (by decide) (by decide) he (by rfl)
theorem dp_sum (B : Bi X.mg) {ns : List Int} (h : DP X a δ (.list (ns.map .int))) (hc : X.calm = true := by rfl) (hg : Gl X "sum" := by rfl) (he : starEach [a] X.env = [(false, eval a X.env)] := by rfl) : DP X (.Call (.Name "sum" p0) [a] [] pos) δ (.int ns.sum) := dp_callB (cr_sum hc) hg B.sum boot_sum (da_cons h da_nil he) rc_sum (by decide) (by decide) he (by rfl)
theorem dp_minL (B : Bi X.mg) {ns : List Int} {m : Int} (h : DP X a δ (.list (ns.map .int))) (h0 : 0 < ns.length) (hm : ∀ k, k ∈ ns → (∀ y, y ∈ ns → k ≤ y) → k = m) (hc : X.calm = true := by rfl) (hg : Gl X "min" := by rfl) (he : starEach [a] X.env = [(false, eval a X.env)] := by rfl) : DP X (.Call (.Name "min" p0) [a] [] pos) δ (.int m) := dp_callB (cr_min hc) hg B.min boot_min (da_cons h da_nil he) (rc_min h0 hm) (by decide) (by decide) he (by rfl)
theorem dp_any (B : Bi X.mg) {ns : List Bool} (h : DP X a δ (.list (ns.map .bool))) (hc : X.calm = true := by rfl) (hg : Gl X "any" := by rfl) (he : starEach [a] X.env = [(false, eval a X.env)] := by rfl) : DP X (.Call (.Name "any" p0) [a] [] pos) δ (.bool (ns.any id)) := dp_callB (cr_any hc) hg B.any boot_any (da_cons h da_nil he) rc_any (by decide) (by decide) he (by rfl)
theorem dp_all (B : Bi X.mg) {ns : List Bool} (h : DP X a δ (.list (ns.map .bool))) (hc : X.calm = true := by rfl) (hg : Gl X "all" := by rfl) (he : starEach [a] X.env = [(false, eval a X.env)] := by rfl) : DP X (.Call (.Name "all" p0) [a] [] pos) δ (.bool (ns.all id)) := dp_callB (cr_all hc) hg B.all boot_all (da_cons h da_nil he) rc_all (by decide) (by decide) he (by rfl)
theorem dp_list (B : Bi X.mg) (h : DP X a δ (.list ds)) (hg : Gl X "list" := by rfl) (he : starEach [a] X.env = [(false, eval a X.env)] := by rfl) : DP X (.Call (.Name "list" p0) [a] [] pos) δ (.list ds) := dp_callTy call_list_of hg B.list PyProof.Rows.boot_list (da_cons h da_nil he) rc_list (by decide) (by decide) he (by rfl)
theorem dp_listT (B : Bi X.mg) (h : DP X a δ (.tuple ds)) (hg : Gl X "list" := by rfl) (he : starEach [a] X.env = [(false, eval a X.env)] := by rfl) : DP X (.Call (.Name "list" p0) [a] [] pos) δ (.list ds) := dp_callTy call_list_of hg B.list PyProof.Rows.boot_list (da_cons h da_nil he) rc_listT (by decide) (by decide) he (by rfl)
theorem dp_tupL (B : Bi X.mg) (h : DP X a δ (.list ds)) (hg : Gl X "tuple" := by rfl) (he : starEach [a] X.env = [(false, eval a X.env)] := by rfl) : DP X (.Call (.Name "tuple" p0) [a] [] pos) δ (.tuple ds) := dp_callTy call_tuple_of hg B.tuple PyProof.Rows.boot_tuple (da_cons h da_nil he) rc_tupL (by decide) (by decide) he (by rfl)
theorem dp_tupS (B : Bi X.mg) (h : DP X a δ (.list ds)) (hg : Gl X "tuple" := by rfl) (he : starEach [a] X.env = [(false, eval a X.env)] := by rfl) : DP X (.Call (.Name "tuple" p0) [a] [] pos) δ (.dict [(.tuple ds, .none)]) := dp_callTy call_tuple_of hg B.tuple PyProof.Rows.boot_tuple (da_cons h da_nil he) rc_tupS (by decide) (by decide) he (by rfl)
theorem dp_isi (B : Bi X.mg) {x : Str} {T T' : String} (h : DP X a δ d) (hx : X.mg x = none) (hv : bootBuiltins x = some (.type T)) (hd : tyD d = .type T') (hk : kitB T' T = some p) (hn : x ≠ "__name__" := by decide) (hdb : (x == ("__debug__" : Str)) = false := by decide) (hgx : Gl X x := by rfl) (hg : Gl X "isinstance" := by rfl) (he : starEach [a, .Name x p1] X.env = (false, eval a X.env) :: starEach [.Name x p1] X.env := by rfl) (he2 : starEach [.Name x p1] X.env = [(false, eval (.Name x p1) X.env)] := by rfl) : DP X (.Call (.Name "isinstance" p0) [a, .Name x p1] [] pos) δ (.bool p) := fun F σ H sm sl Q q =>
  wE_of (pe_callB call_isi hg B.isinstance PyProof.Rows.boot_isinstance pa_star (by decide) (by decide) he (by rw [he2]; rfl)) (wA_of (pa_cons pe_star (pa_cons (pe_bltn hgx hx hv (v := .ty T) rfl hn hdb) pa_nil he2) he) (h F σ H sm sl _ fun v F1 H1 x1 r =>
    ⟨v, .ty T, .type T', .type T, p, rfl, .ty T, by rw [← hd]; exact rep_ty hd (r.mono x1.s), kit_ty hk, q _ F1 H1 x1 (.bl _)⟩))
end

/-! ### zips -/
inductive ZS : PyData → List PyData → Prop
  | lst (ds : List PyData) : ZS (.list ds) ds
  | tup (ds : List PyData) : ZS (.tuple ds) ds
  | str (z : Str) : ZS (.str z) (z.cps.toList.map fun c => .str ⟨#[c]⟩)
theorem reps_signs {K : PySem.W.Frag} {F : Hp} : ∀ l : List Nat, Reps K F (l.map fun c => V.str ⟨#[c]⟩) (l.map fun c => PyData.str ⟨#[c]⟩)
  | [] => .nil
  | _ :: l => .cons (.str _) (reps_signs l)
theorem ZS.src {K : PySem.W.Frag} {F : Hp} {v : V} {d : PyData} {xs : List PyData} (z : ZS d xs) (r : Rep K F v d) : ∃ (k : Zk) (vs : List V), Zk.val k v ∧ Reps K F vs xs ∧ ∀ H, Same F H → Zk.ok K H k vs := by
  cases z with
  | lst ds => cases r with | @lst a vs _ h r => exact ⟨.lst a, vs, rfl, r, fun H s => SqL.of (s _ _ h)⟩
  | tup ds => cases r with | @tup a vs _ h r => exact ⟨.tup a, vs, rfl, r, fun H s => sqT_mono s h⟩
  | str z => cases r; exact ⟨.str z, _, rfl, reps_signs _, fun H s => rfl⟩
section
variable {X : Cx} {δ : Dl} {a b c e : Expr} {es : List Expr} {pos p0 p1 tp : Pos} {d1 d2 d3 : PyData} {xs ys zs : List PyData} {kk : Nat}
theorem di_zip2 (B : Bi X.mg) (h1 : DP X a δ d1) (h2 : DP X b δ d2) (z1 : ZS d1 xs) (z2 : ZS d2 ys) (hg : Gl X "zip" := by rfl) (hs : starEach [a, b] X.env = (false, eval a X.env) :: starEach [b] X.env := by rfl) (hs2 : starEach [b] X.env = [(false, eval b X.env)] := by rfl) :
    DI X (.Tuple es kk tp) (.Call (.Name "zip" p0) [a, b] [] pos) δ ((xs.zip ys).map fun p => .tuple [p.1, p.2]) := fun F σ H sm sl R q =>
  wI_of (pi_zip2 hg B.zip pa_star hs (by rw [hs2]; rfl)) (da_cons h1 (da_cons h2 da_nil hs2) hs F σ H sm sl _ fun vs F1 H1 x1 rs => by
    cases rs with
    | cons r1 t =>
      cases t with
      | cons r2 t =>
        cases t
        obtain ⟨k1, vs1, e1, s1, o1⟩ := z1.src r1
        obtain ⟨k2, vs2, e2, s2, o2⟩ := z2.src r2
        refine ⟨_, _, k1, k2, vs1, vs2, rfl, e1, e2, o1 _ x1.s, o2 _ x1.s, q _ F1 H1 x1 fun i F2 H2 m1 m2 => ⟨fun x hx => ?_, fun hl => ⟨vs1, vs2, o1 _ (m1.trans m2), o2 _ (m1.trans m2), ?_, ?_, ?_⟩⟩⟩
        · rw [List.getElem?_map] at hx
          cases hz : (xs.zip ys)[i]? with
          | none => rw [hz] at hx; cases hx
          | some p =>
            rw [hz] at hx
            cases hx
            obtain ⟨g1, g2⟩ := List.getElem?_zip_eq_some.mp hz
            obtain ⟨v1, w1, u1⟩ := s1.get g1
            obtain ⟨v2, w2, u2⟩ := s2.get g2
            refine ⟨⟨vs1, vs2, v1, v2, o1 _ (m1.trans m2), o2 _ (m1.trans m2), w1, w2⟩, fun v H3 ⟨T, x, y, e3, nT, e4, k1', k2'⟩ => ?_⟩
            subst e3; subst e4
            have g3 := k1' vs1 (o1 _ (m1.trans m2))
            have g4 := k2' vs2 (o2 _ (m1.trans m2))
            rw [w1] at g3; cases g3
            rw [w2] at g4; cases g4
            have xt := Xt.new (o := .tup [v1, v2]) m2 nT
            exact ⟨_, xt, .tup (SqT.of upd_same) (.cons ((u1.mono m1).mono xt.f) (.cons ((u2.mono m1).mono xt.f) .nil))⟩
        · rw [List.length_map, List.length_zip] at hl; rw [s1.len, hl]; omega
        · rw [List.length_map, List.length_zip] at hl; rw [s2.len, hl]; omega
        · rw [List.length_map, List.length_zip] at hl; rw [s1.len, s2.len, hl]; omega)
theorem di_zip3 (B : Bi X.mg) (h1 : DP X a δ d1) (h2 : DP X b δ d2) (h3 : DP X c δ d3) (z1 : ZS d1 xs) (z2 : ZS d2 ys) (z3 : ZS d3 zs) (hg : Gl X "zip" := by rfl) (hs : starEach [a, b, c] X.env = (false, eval a X.env) :: starEach [b, c] X.env := by rfl) (hs2 : starEach [b, c] X.env = (false, eval b X.env) :: starEach [c] X.env := by rfl) (hs3 : starEach [c] X.env = [(false, eval c X.env)] := by rfl) :
    DI X (.Tuple es kk tp) (.Call (.Name "zip" p0) [a, b, c] [] pos) δ ((xs.zip (ys.zip zs)).map fun p => .tuple [p.1, p.2.1, p.2.2]) := fun F σ H sm sl R q =>
  wI_of (pi_zip3 hg B.zip pa_star hs (by rw [hs2, hs3]; rfl)) (da_cons h1 (da_cons h2 (da_cons h3 da_nil hs3) hs2) hs F σ H sm sl _ fun vs F1 H1 x1 rs => by
    cases rs with
    | cons r1 t =>
      cases t with
      | cons r2 t =>
        cases t with
        | cons r3 t =>
        cases t
        obtain ⟨k1, vs1, e1, s1, o1⟩ := z1.src r1
        obtain ⟨k2, vs2, e2, s2, o2⟩ := z2.src r2
        obtain ⟨k3, vs3, e3, s3, o3⟩ := z3.src r3
        refine ⟨_, _, _, k1, k2, k3, vs1, vs2, vs3, rfl, e1, e2, e3, o1 _ x1.s, o2 _ x1.s, o3 _ x1.s, q _ F1 H1 x1 fun i F2 H2 m1 m2 => ⟨fun x hx => ?_, fun hl => ⟨vs1, vs2, vs3, o1 _ (m1.trans m2), o2 _ (m1.trans m2), o3 _ (m1.trans m2), ?_, ?_, ?_, ?_⟩⟩⟩
        · rw [List.getElem?_map] at hx
          cases hz : (xs.zip (ys.zip zs))[i]? with
          | none => rw [hz] at hx; cases hx
          | some p =>
            rw [hz] at hx
            cases hx
            obtain ⟨g1, g23⟩ := List.getElem?_zip_eq_some.mp hz
            obtain ⟨g2, g3⟩ := List.getElem?_zip_eq_some.mp g23
            obtain ⟨v1, w1, u1⟩ := s1.get g1
            obtain ⟨v2, w2, u2⟩ := s2.get g2
            obtain ⟨v3, w3, u3⟩ := s3.get g3
            refine ⟨⟨vs1, vs2, vs3, v1, v2, v3, o1 _ (m1.trans m2), o2 _ (m1.trans m2), o3 _ (m1.trans m2), w1, w2, w3⟩, fun v H3 ⟨T, x, y, u, e3, nT, e4, k1', k2', k3'⟩ => ?_⟩
            subst e3; subst e4
            have g3 := k1' vs1 (o1 _ (m1.trans m2))
            have g4 := k2' vs2 (o2 _ (m1.trans m2))
            have g5 := k3' vs3 (o3 _ (m1.trans m2))
            rw [w1] at g3; cases g3
            rw [w2] at g4; cases g4
            rw [w3] at g5; cases g5
            have xt := Xt.new (o := .tup [v1, v2, v3]) m2 nT
            exact ⟨_, xt, .tup (SqT.of upd_same) (.cons ((u1.mono m1).mono xt.f) (.cons ((u2.mono m1).mono xt.f) (.cons ((u3.mono m1).mono xt.f) .nil)))⟩
        · rw [List.length_map, List.length_zip, List.length_zip] at hl; rw [s1.len, hl]; omega
        · rw [List.length_map, List.length_zip, List.length_zip] at hl; rw [s2.len, hl]; omega
        · rw [List.length_map, List.length_zip, List.length_zip] at hl; rw [s3.len, hl]; omega
        · rw [List.length_map, List.length_zip, List.length_zip] at hl; rw [s1.len, s2.len, s3.len, hl]; omega)
end
end SS
set_option maxHeartbeats 4000000
/-! list(zip(a, b)) of two lists. -/
namespace SS
open PySem PySem.Spec PyProof.Rows L2 PySem.W
theorem zip_nolen : typeLookup (.type "zip") "__len__" = pure none := by rw [typeLookup_type, builtinLookup_eq_fast]; kernel_rfl
theorem zip_nohint : typeLookup (.type "zip") "__length_hint__" = pure none := by rw [typeLookup_type, builtinLookup_eq_fast]; kernel_rfl
structure Zst (S z TI TO i1 i2 l1 l2 : Addr) (xs ys : Array Value) (i : Nat) (h : Heap) : Prop where
  ti : IsPair h TI (.ref i1) (.ref i2)
  a : h.IsListIter i1 l1 i
  b : h.IsListIter i2 l2 i
  x : h.IsList l1 xs
  y : h.IsList l2 ys
  z : (IsZip h z TI TO .none ∧ ∃ a b, IsPair h TO a b) ∨ ∃ T f oT, IsZipHeld h z TI TO T f ∧ h.get? T = some oT ∧ T ≠ z ∧ T ≠ i1 ∧ T ≠ i2 ∧ T ≠ S
theorem Zst.keep {S z TI TO i1 i2 l1 l2 : Addr} {xs ys : Array Value} {i : Nat} {h h' : Heap} (s : Zst S z TI TO i1 i2 l1 l2 xs ys i h) (d : ∀ c ∈ [z, TI, TO, i1, i2, l1, l2], c ≠ S) (k : ∀ c o, c ≠ S → h.get? c = some o → h'.get? c = some o) : Zst S z TI TO i1 i2 l1 l2 xs ys i h' := by
  refine ⟨k _ _ (d TI (by simp)) s.ti, s.a.at fun o e => k _ o (d i1 (by simp)) e, s.b.at fun o e => k _ o (d i2 (by simp)) e, s.x.at fun o e => k _ o (d l1 (by simp)) e, s.y.at fun o e => k _ o (d l2 (by simp)) e, ?_⟩
  rcases s.z with ⟨hz, a, b, hTO⟩ | ⟨T, f, oT, hz, hT, r1, r2, r3, r4⟩
  · exact .inl ⟨k _ _ (d z (by simp)) hz, a, b, k _ _ (d TO (by simp)) hTO⟩
  · exact .inr ⟨T, f, oT, k _ _ (d z (by simp)) hz, k _ _ r4 hT, r1, r2, r3, r4⟩
section
variable {prog : Program} {w : World} {A : Around} {E : Value → Shared → Prop} {s : Shared} {S z TI TO i1 i2 l1 l2 : Addr} {xs ys : Array Value} {i : Nat}
theorem zil_item {Q : Option Value → Shared → Prop} (D : ZipApart z TI TO i1 i2 l1 l2) (st : Zst S z TI TO i1 i2 l1 l2 xs ys i s.heap) (hS : S < s.heap.objs.size) {x y : Value} (ex : xs[i]? = some x) (ey : ys[i]? = some y)
    (hQ : ∀ h', Zst S z TI TO i1 i2 l1 l2 xs ys (i + 1) h' → IsPair h' s.heap.objs.size x y → h'.objs.size = s.heap.objs.size + 1 → (∀ c o, c ≠ z → c ≠ TO → c ≠ i1 → c ≠ i2 → s.heap.get? c = some o → h'.get? c = some o) → Q (some (.ref s.heap.objs.size)) { s with heap := h' }) :
    wpAny (model prog w) A (pyNext (.ref z)) Q E s := by
  obtain ⟨hTI, h1, h2, hl1, hl2, hz⟩ := st
  have lt : ∀ {c o}, s.heap.get? c = some o → s.heap.objs.size ≠ c := fun e => Nat.ne_of_gt (Heap.lt_size e)
  have n1 : s.heap.objs.size ≠ i1 := let ⟨_, e, _⟩ := h1; lt e
  have n2 : s.heap.objs.size ≠ i2 := let ⟨_, e, _⟩ := h2; lt e
  rcases hz with ⟨hz, a, b, hTO⟩ | ⟨T, f, oT, hz, hT, r1, r2, r3, r4⟩
  · refine wpAny_pyNext_zip_item D hz hTI hTO h1 h2 hl1 hl2 ex ey fun h' a1 a2 a3 a4 a5 a6 hk => ?_
    exact hQ h' ⟨hk _ _ D.TIz D.TITO D.TIi1 D.TIi2 hTI, a3, a4, hl1.at fun o e => hk _ o D.l1z D.l1TO D.l1i1 D.l1i2 e, hl2.at fun o e => hk _ o D.l2z D.l2TO D.l2i1 D.l2i2 e,
        .inr ⟨s.heap.objs.size, false, _, a1, a5, lt hz, n1, n2, Nat.ne_of_gt hS⟩⟩ a5 a6 hk
  · refine wpAny_pyNext_zip_item_held D hz hT hTI h1 h2 hl1 hl2 ex ey fun h' a1 a3 a4 a5 a6 hk => ?_
    exact hQ h' ⟨hk _ _ D.TIz D.TIi1 D.TIi2 hTI, a3, a4, hl1.at fun o e => hk _ o D.l1z D.l1i1 D.l1i2 e, hl2.at fun o e => hk _ o D.l2z D.l2i1 D.l2i2 e,
        .inr ⟨T, true, oT, a1, hk _ _ r1 r2 r3 hT, r1, r2, r3, r4⟩⟩ a5 a6 fun c o c1 _ c3 c4 => hk c o c1 c3 c4
theorem zil_done {Q : Option Value → Shared → Prop} (hh : A.handled = none) (D : ZipApart z TI TO i1 i2 l1 l2) (st : Zst S z TI TO i1 i2 l1 l2 xs ys i s.heap) (hend : xs[i]? = none ∨ ys[i]? = none)
    (hQ : ∀ h', (∀ c o, c ≠ z → c ≠ TO → c ≠ i1 → c ≠ i2 → s.heap.get? c = some o → h'.get? c = some o) → Q none { s with heap := h' }) : wpAny (model prog w) A (pyNext (.ref z)) Q E s := by
  obtain ⟨hTI, h1, h2, hl1, hl2, hz⟩ := st
  rcases hz with ⟨hz, a, b, hTO⟩ | ⟨T, f, oT, hz, hT, r1, r2, r3, r4⟩
  · exact wpAny_pyNext_zip_end hh D hz hTI hTO h1 h2 hl1 hl2 hend fun h' hk => hQ h' hk
  · exact wpAny_pyNext_zip_end_held hh D hz hT hTI h1 h2 hl1 hl2 hend fun h' hk => hQ h' fun c o c1 _ c3 c4 => hk c o c1 c3 c4
/-- the pairs that were made, above lo -/
structure ZilG (xs ys : Array Value) (lo : Addr) (h : Heap) (as : List Addr) : Prop where
  rise : as.Pairwise (· < ·)
  above : ∀ a ∈ as, lo < a
  pairs : ∀ (j : Nat) (a : Addr), as[j]? = some a → ∃ x y, xs[j]? = some x ∧ ys[j]? = some y ∧ IsPair h a x y
theorem zil_loop {R : Result → Shared → Prop} (hh : A.handled = none) (D : ZipApart z TI TO i1 i2 l1 l2) (d : ∀ c ∈ [z, TI, TO, i1, i2, l1, l2], c ≠ S) (lo : Addr) (hlo : ∀ c ∈ [S, z, TO, i1, i2], c ≤ lo) (hn : xs.size ≤ sizeLine) (hxy : xs.size = ys.size) (res : Value) {h₁ : Heap}
    (hR : ∀ h' tk acc c as, (∀ b o, b ∉ [S, z, TO, i1, i2] → h₁.get? b = some o → h'.get? b = some o) → h'.get? S = some { cls := .type "list", dict := none, data := .seq acc c, slots := #[] } → as.length = xs.size → ZilG xs ys lo h' as →
      acc.toList = as.map Value.ref → R (.ok (.ret res)) { s with heap := h', toks := tk }) :
    ∀ (k i : Nat) (h : Heap) (tk c : Nat) (acc : Array Value) (as : List Addr), xs.size - i = k → i ≤ xs.size → Zst S z TI TO i1 i2 l1 l2 xs ys i h → (∀ b o, b ∉ [S, z, TO, i1, i2] → h₁.get? b = some o → h.get? b = some o) →
      h.get? S = some { cls := .type "list", dict := none, data := .seq acc c, slots := #[] } → acc.toList = as.map Value.ref → as.length = i → ZilG xs ys lo h as → lo < h.objs.size →
      codeAny (model prog w) A (.builtin "list.extend.loop" ⟨[.ref S, .ref z, res], []⟩) R { s with heap := h, toks := tk } := by
  have dn : ∀ a, lo < a → a ∉ [S, z, TO, i1, i2] := fun a ha hm => absurd (hlo a hm) (Nat.not_le.mpr ha)
  have Sz : S ≠ z := Ne.symm (d z (by simp))
  have STO : S ≠ TO := Ne.symm (d TO (by simp))
  have Si1 : S ≠ i1 := Ne.symm (d i1 (by simp))
  have Si2 : S ≠ i2 := Ne.symm (d i2 (by simp))
  intro k
  induction k with
  | zero =>
    intro i h tk c acc as hk hi hst hkeep hS hacc hal hG hIs
    have hin : i = xs.size := by omega
    refine codeAny_builtin PySem.F.entry_extend_loop ?_
    rw [Around.under_plainId PySem.F.plain_extend_loop _]
    show wpAny _ A.in1 (pyNext (.ref z) >>= _) _ _ _
    refine wpAny_bind (zil_done (s := { s with heap := h, toks := tk }) (A := A.in1) hh D hst (.inl (Array.getElem?_eq_none (by omega))) fun h' he => ?_)
    have up : ∀ a, lo < a → ∀ o, h.get? a = some o → h'.get? a = some o := fun a ha o e => by
      have q := dn a ha
      simp only [List.mem_cons, List.not_mem_nil, or_false, not_or] at q
      exact he a o q.2.1 q.2.2.1 q.2.2.2.1 q.2.2.2.2 e
    refine wpAny_pure (hR h' tk acc c as (fun b o h1 e => ?_) (he S _ Sz STO Si1 Si2 hS) (by omega) ⟨hG.rise, hG.above, fun j a hj => ?_⟩ hacc)
    · have q := h1
      simp only [List.mem_cons, List.not_mem_nil, or_false, not_or] at q
      exact he b o q.2.1 q.2.2.1 q.2.2.2.1 q.2.2.2.2 (hkeep b o h1 e)
    · obtain ⟨x, y, e1, e2, e3⟩ := hG.pairs j a hj
      exact ⟨x, y, e1, e2, up a (hG.above a (List.mem_of_getElem? hj)) _ e3⟩
  | succ k ih =>
    intro i h tk c acc as hk hi hst hkeep hS hacc hal hG hIs
    have hlt : i < xs.size := by omega
    have hsz : acc.size = i := by rw [← Array.length_toList, hacc, List.length_map, hal]
    have ex := Array.getElem?_eq_getElem hlt
    have ey : ys[i]? = some (ys[i]'(by omega)) := Array.getElem?_eq_getElem _
    have hSl : S < h.objs.size := Heap.lt_size hS
    refine codeAny_builtin PySem.F.entry_extend_loop ?_
    rw [Around.under_plainId PySem.F.plain_extend_loop _]
    show wpAny _ A.in1 (pyNext (.ref z) >>= _) _ _ _
    refine wpAny_bind (zil_item (s := { s with heap := h, toks := tk }) D hst hSl ex ey fun h' hst' ht hz hkp => ?_)
    dsimp only at ht hz hkp ⊢
    have hS' := hkp S _ Sz STO Si1 Si2 hS
    have up : ∀ b o, b ≠ S → h'.get? b = some o → (h'.update S (Obj.mapSeq (·.push (Value.ref h.objs.size)))).get? b = some o := fun b o hb e => (Heap.get?_update_other _ _ (Ne.symm hb)).trans e
    have upl : ∀ a, lo < a → ∀ o, h.get? a = some o → (h'.update S (Obj.mapSeq (·.push (Value.ref h.objs.size)))).get? a = some o := fun a ha o e => by
      have q := dn a ha
      simp only [List.mem_cons, List.not_mem_nil, or_false, not_or] at q
      exact up a o q.1 (hkp a o q.2.1 q.2.2.1 q.2.2.2.1 q.2.2.2.2 e)
    show wpAny _ A.in1 (updateSeq S (·.push (Value.ref h.objs.size)) >>= _) _ _ _
    refine wpAny_bind ?_
    refine wpAny_updateSeq hS' rfl (wpAny_pure ⟨plainId_quiet PySem.F.plain_extend_loop _, ih (i + 1) _ tk _ (acc.push (Value.ref h.objs.size)) (as ++ [h.objs.size]) (by omega) hlt (hst'.keep d fun c o hc e => up c o hc e)
      (fun b o h1 e => ?_) (Heap.get?_update_self _ hS' rfl) (by rw [Array.toList_push, hacc, List.map_append]; rfl) (by rw [List.length_append, hal]; rfl) ⟨?_, ?_, ?_⟩ ?_⟩) (by rw [hsz]; omega) (by show (acc.push _).size ≤ sizeLine + 1; rw [Array.size_push, hsz]; omega)
    · have q := h1
      simp only [List.mem_cons, List.not_mem_nil, or_false, not_or] at q
      exact up b o q.1 (hkp b o q.2.1 q.2.2.1 q.2.2.2.1 q.2.2.2.2 (hkeep b o h1 e))
    · refine List.pairwise_append.mpr ⟨hG.rise, List.pairwise_singleton _ _, fun a ha b hb => ?_⟩
      rw [List.mem_singleton.mp hb]
      obtain ⟨j, hj⟩ := List.getElem?_of_mem ha
      obtain ⟨x, y, _, _, e3⟩ := hG.pairs j a hj
      exact Heap.lt_size e3
    · intro a ha
      rcases List.mem_append.mp ha with ha | ha
      · exact hG.above a ha
      · rw [List.mem_singleton.mp ha]; exact hIs
    · intro j b hj
      rcases Nat.lt_trichotomy j as.length with h1 | h1 | h1
      · rw [List.getElem?_append_left h1] at hj
        obtain ⟨x, y, e1, e2, e3⟩ := hG.pairs j b hj
        exact ⟨x, y, e1, e2, upl b (hG.above b (List.mem_of_getElem? hj)) _ e3⟩
      · subst h1
        have hb : h.objs.size = b := by simpa using hj
        subst hb
        subst hal
        exact ⟨_, _, ex, ey, up _ _ (Nat.ne_of_gt hSl) ht⟩
      · have hnone : (as ++ [h.objs.size])[j]? = none := List.getElem?_eq_none (by rw [List.length_append, List.length_singleton]; omega)
        rw [hnone] at hj; cases hj
    · have e : (h'.update S (Obj.mapSeq (·.push (Value.ref h.objs.size)))).get? h.objs.size = _ := up _ _ (Nat.ne_of_gt hSl) ht
      exact Nat.lt_trans hIs (Heap.lt_size e)

theorem zip_hint {Q : Bool → Shared → Prop} (hT : s.TypeIs (.ref z) "zip") (h : ∀ b, Q b s) : wpAny (model prog w) A (Builtin.List.listLengthHint (.ref z)) Q E s := by
  unfold Builtin.List.listLengthHint
  refine wpAny_bind (wpAny_specialOf hT zip_nolen ?_)
  show wpAny _ A (specialOf (Value.ref z) (Str.ofString "__length_hint__") >>= _) _ _ _
  refine wpAny_bind (wpAny_specialOf hT zip_nohint ?_)
  exact wpAny_pure (h _)
/-- list(z), z a zip -/
theorem zil_call {Q : Value → Shared → Prop} (hh : A.handled = none) (D : ZipApart z TI TO i1 i2 l1 l2) (hn : xs.size ≤ sizeLine) (hxy : xs.size = ys.size) (hz : IsZip s.heap z TI TO .none) (hTI : IsPair s.heap TI (.ref i1) (.ref i2)) {a b : Value} (hTO : IsPair s.heap TO a b) (h1 : s.heap.IsListIter i1 l1 0) (h2 : s.heap.IsListIter i2 l2 0) (hl1 : s.heap.IsList l1 xs) (hl2 : s.heap.IsList l2 ys)
    (hQ : ∀ h' tk acc c as, (∀ b o, b ∉ [z, TO, i1, i2] → s.heap.get? b = some o → h'.get? b = some o) → h'.get? s.heap.objs.size = some { cls := .type "list", dict := none, data := .seq acc c, slots := #[] } → as.length = xs.size → ZilG xs ys s.heap.objs.size h' as →
      acc.toList = as.map Value.ref → Q (.ref s.heap.objs.size) { s with heap := h', toks := tk }) :
    wpAny (model prog w) A (call (.type "list") [.ref z]) Q E s := by
  have lt : ∀ {c o}, s.heap.get? c = some o → c < s.heap.objs.size := fun e => Heap.lt_size e
  have li1 : i1 < s.heap.objs.size := let ⟨_, e, _⟩ := h1; lt e
  have li2 : i2 < s.heap.objs.size := let ⟨_, e, _⟩ := h2; lt e
  have ll1 : l1 < s.heap.objs.size := let ⟨_, e, _⟩ := hl1; lt e
  have ll2 : l2 < s.heap.objs.size := let ⟨_, e, _⟩ := hl2; lt e
  have all : ∀ c ∈ [z, TI, TO, i1, i2, l1, l2], c < s.heap.objs.size := fun c hc => by
    simp only [List.mem_cons, List.not_mem_nil, or_false] at hc
    rcases hc with e | e | e | e | e | e | e
    · rw [e]; exact lt hz
    · rw [e]; exact lt hTI
    · rw [e]; exact lt hTO
    · rw [e]; exact li1
    · rw [e]; exact li2
    · rw [e]; exact ll1
    · rw [e]; exact ll2
  have d : ∀ c ∈ [z, TI, TO, i1, i2, l1, l2], c ≠ s.heap.objs.size := fun c hc => Nat.ne_of_lt (all c hc)
  refine callType_codes (Q₁ := fun obj s₁ => obj = .ref s.heap.objs.size ∧ s₁ = { s with heap := s.heap.push { cls := .type "list", data := .seq #[] } }) PySem.F.called_list (PySem.F.typeCall_list_1 _) PySem.F.entry_list_init
    (code_list_new _ ⟨rfl, rfl⟩) fun obj s₁ h₁ => ?_
  obtain ⟨rfl, rfl⟩ := h₁
  have hS : (s.heap.push { cls := .type "list", data := .seq #[] }).get? s.heap.objs.size = some { cls := .type "list", data := .seq #[] } := Heap.get?_push_size _ rfl
  have st0 : Zst s.heap.objs.size z TI TO i1 i2 l1 l2 xs ys 0 s.heap := ⟨hTI, h1, h2, hl1, hl2, .inl ⟨hz, a, b, hTO⟩⟩
  have st1 : Zst s.heap.objs.size z TI TO i1 i2 l1 l2 xs ys 0 (s.heap.push { cls := .type "list", data := .seq #[] }) := st0.keep d fun c o _ e => Heap.get?_push_of_some _ e
  have hsz1 : (s.heap.push { cls := .type "list", data := .seq #[] }).objs.size = s.heap.objs.size + 1 := Heap.size_push ..
  have key : ∀ (h : Heap) (c₁ tk : Nat), (∀ b o, b ≠ s.heap.objs.size → (s.heap.push { cls := .type "list", data := .seq #[] }).get? b = some o → h.get? b = some o) → h.get? s.heap.objs.size = some { cls := .type "list", data := .seq #[] c₁ } →
      codeAny (model prog w) A.in1 (.builtin "list.extend.loop" ⟨[.ref s.heap.objs.size, .ref z, .none], []⟩) (wants (fun r s₂ => r = .none ∧ Q (.ref s.heap.objs.size) s₂) E) { s with heap := h, toks := tk } := by
    intro h c₁ tk hk hS₁
    refine zil_loop (A := A.in1) (s := s) (h₁ := s.heap) hh D d s.heap.objs.size (fun c hc => ?_) hn hxy .none (fun h' tk' acc c as hk' hS' hl hG hacc => ⟨rfl, hQ h' tk' acc c as (fun b o hb e => hk' b o (fun q => ?_) e) hS' hl hG hacc⟩) xs.size 0 h tk c₁ #[] [] (Nat.sub_zero _) (Nat.zero_le _) (st1.keep d hk)
      (fun b o hb e => hk b o (fun q => hb (by rw [q]; exact List.mem_cons_self)) (Heap.get?_push_of_some _ e)) hS₁ rfl rfl ⟨List.Pairwise.nil, (fun _ ha => nomatch ha), (fun j a hj => by simp at hj)⟩ (Heap.lt_size hS₁)
    · rcases List.mem_cons.mp hc with e | hc
      · rw [e]; exact Nat.le_refl _
      · refine Nat.le_of_lt (all c ?_)
        simp only [List.mem_cons, List.not_mem_nil, or_false] at hc ⊢
        rcases hc with e | e | e | e <;> simp [e]
    · rcases List.mem_cons.mp q with e2 | q
      · exact absurd (lt e) (by rw [e2]; exact Nat.lt_irrefl _)
      · exact hb q
  refine ⟨⟨_, hS, rfl⟩, PySem.F.args_list_init_2 _ _, ?_⟩
  show wpAny _ _ (do let old ← Builtin.List.listItems (.ref s.heap.objs.size); Builtin.List.listUpdate (.ref s.heap.objs.size) (fun _ => #[]); letGo old.toList.reverse; Builtin.List.listExtendWith (.ref s.heap.objs.size) (.ref z) .none) _ _ _
  refine wpAny_bind ?_
  unfold Builtin.List.listItems
  refine wpAny_bind (wpAny_seqItems hS rfl (wpAny_pure ?_))
  show wpAny _ _ (updateSeq s.heap.objs.size (fun _ => #[]) >>= fun _ => letGo (#[] : Array Value).toList.reverse >>= fun _ => Builtin.List.listExtendWith (.ref s.heap.objs.size) (.ref z) .none) _ _ _
  refine wpAny_bind (wpAny_updateSeq hS rfl ?_)
  have hS₂ := Heap.get?_update_self (Obj.mapSeq (fun _ => (#[] : Array Value))) hS rfl
  have oth : ∀ b o, b ≠ s.heap.objs.size → (s.heap.push { cls := .type "list", data := .seq #[] }).get? b = some o → ((s.heap.push { cls := .type "list", data := .seq #[] }).update s.heap.objs.size (Obj.mapSeq (fun _ => (#[] : Array Value)))).get? b = some o :=
    fun b o hb e => (Heap.get?_update_other _ _ (Ne.symm hb)).trans e
  refine wpAny_bind (wpAny_letGo ?_)
  have hz2 := oth z _ (d z (by simp)) (Heap.get?_push_of_some _ hz)
  unfold Builtin.List.listExtendWith
  refine wpAny_bind (wpAny_typeOf (T := "zip") ⟨_, hz2, rfl⟩ ?_)
  have hq1 : Builtin.List.listSameRef (.ref s.heap.objs.size) (.ref z) = false := by simp [Builtin.List.listSameRef, Ne.symm (d z (by simp))]
  have hq2 : (Value.type "zip" == Value.type "list") = false := by decide
  have hq3 : (Value.type "zip" == Value.type "tuple") = false := by decide
  simp only [hq1, hq2, hq3, Bool.or_false, Bool.false_eq_true, if_false]
  refine wpAny_bind (wpAny_pyIter_zip hz2 ?_)
  refine wpAny_bind (wpAny_holding (zip_hint ⟨_, hz2, rfl⟩ fun bb => ?_))
  refine wpAny_ite_split (fun _ => ?_) (fun _ => wpAny_pure ⟨plainId_quiet PySem.F.plain_extend_loop _, key _ _ _ oth hS₂⟩)
  refine wpAny_bind (wpAny_rule ?_)
  refine wpAny_bind ?_
  show wpAny _ _ (updateSeq s.heap.objs.size (·.push .none) >>= fun _ => updateSeq s.heap.objs.size (·.pop)) _ _ _
  refine wpAny_bind (wpAny_updateSeq hS₂ rfl ?_)
  have hS₃ := Heap.get?_update_self (Obj.mapSeq (·.push Value.none)) hS₂ rfl
  refine wpAny_updateSeq (hz := by seq_fits) hS₃ rfl ?_
  have hS₄ := Heap.get?_update_self (Obj.mapSeq (·.pop)) hS₃ rfl
  refine wpAny_pure ⟨plainId_quiet PySem.F.plain_extend_loop _, key _ _ _ (fun b o hb e => ?_) hS₄⟩
  exact (Heap.get?_update_other _ _ (Ne.symm hb)).trans ((Heap.get?_update_other _ _ (Ne.symm hb)).trans (oth b o hb e))
end

/-! the pairs tracked -/
def putT2 : Hp → List Addr → List (V × V) → Hp
  | H, a :: as, p :: ps => putT2 (upd H a (.tup [p.1, p.2])) as ps
  | H, _, _ => H
theorem putT2_off {b : Addr} : ∀ (as : List Addr) (ps : List (V × V)) (H : Hp), b ∉ as → putT2 H as ps b = H b
  | [], _, _, _ => rfl
  | _ :: _, [], _, _ => rfl
  | a :: as, p :: ps, H, h => by
    show putT2 (upd H a (.tup [p.1, p.2])) as ps b = H b
    rw [putT2_off as ps _ (fun z => h (List.mem_cons_of_mem _ z)), upd_ne (fun z => h (by rw [z]; exact List.mem_cons_self))]
theorem putT2_at : ∀ (as : List Addr) (ps : List (V × V)) (H : Hp), as.length = ps.length → as.Nodup → Paired (fun (t : Addr) (p : V × V) => putT2 H as ps t = some (.tup [p.1, p.2])) as ps
  | [], [], _, _, _ => .nil
  | [], _ :: _, _, h, _ => by cases h
  | _ :: _, [], _, h, _ => by cases h
  | a :: as, p :: ps, H, h, hn => by
    have hn' := List.nodup_cons.mp hn
    refine .cons ?_ (putT2_at as ps (upd H a (.tup [p.1, p.2])) (Nat.succ.inj h) hn'.2)
    show putT2 (upd H a (.tup [p.1, p.2])) as ps a = some (.tup [p.1, p.2])
    rw [putT2_off as ps _ hn'.1, upd_same]
theorem xt_pairs {F H : Hp} : ∀ (as : List Addr) (ps : List (V × V)) {F1 H1 : Hp}, Xt F H F1 H1 → as.Nodup → (∀ a ∈ as, H1 a = none) → Xt F H (putT2 F1 as ps) (putT2 H1 as ps)
  | [], _, _, _, x, _, _ => x
  | _ :: _, [], _, _, x, _, _ => x
  | a :: as, p :: ps, F1, H1, x, hn, h => by
    have hn' := List.nodup_cons.mp hn
    refine xt_pairs as ps (x.trans (.new (o := .tup [p.1, p.2]) x.s (h a List.mem_cons_self))) hn'.2 fun b hb => ?_
    rw [upd_ne (fun z => hn'.1 (by rw [← z]; exact hb))]
    exact h b (List.mem_cons_of_mem _ hb)
section
variable {X : Cx} {pins : List (Addr × Obj)} {σ : L2.St} {H : Hp} {s : Shared}
theorem zip_laid {h' : Heap} {tk : Nat} {S : Addr} {ps : List (V × V)} {us : List (Value × Value)} {acc : Array Value} {c : Nat} {as : List Addr} (I : Inv X pins σ H s) (hz : as.length ≤ sizeLine) (kv : Paired (fun (p : V × V) (u : Value × Value) => RelV p.1 u.1 ∧ RelV p.2 u.2) ps us) (hSge : s.heap.objs.size ≤ S)
    (hk : ∀ b o, s.heap.get? b = some o → h'.get? b = some o) (hS : h'.get? S = some { cls := .type "list", dict := none, data := .seq acc c, slots := #[] }) (hl : as.length = ps.length) (rise : as.Pairwise (· < ·)) (above : ∀ a ∈ as, S < a)
    (prs : ∀ (j : Nat) (a : Addr), as[j]? = some a → ∃ u, us[j]? = some u ∧ IsPair h' a u.1 u.2) (hacc : acc.toList = as.map Value.ref) :
    H S = none ∧ (∀ t ∈ as, H t = none) ∧ S ∉ as ∧ as.Nodup ∧ Inv X pins σ (upd (putT2 H as ps) S (.lst (as.map V.ref))) { s with heap := h', toks := tk } := by
  have hSn : S ∉ as := fun z => Nat.lt_irrefl _ (above _ z)
  have nd : as.Nodup := List.Pairwise.imp (fun {a b} (h : a < b) => Nat.ne_of_lt h) rise
  have new : ∀ t ∈ as, H t = none := fun t ht => I.hok.fresh (Nat.le_of_lt (Nat.lt_of_le_of_lt hSge (above t ht)))
  have newS : H S = none := I.hok.fresh hSge
  have atP := putT2_at as ps H hl nd
  have off : ∀ b, b ∉ as → b ≠ S → upd (putT2 H as ps) S (.lst (as.map V.ref)) b = H b := fun b h1 h2 => by rw [upd_ne h2, putT2_off as ps _ h1]
  have low : ∀ b o, s.heap.get? b = some o → b ∉ as ∧ b ≠ S := fun b o e => ⟨fun z => absurd (Heap.lt_size e) (Nat.not_lt.mpr (Nat.le_of_lt (Nat.lt_of_le_of_lt hSge (above b z)))), fun z => absurd (Heap.lt_size e) (Nat.not_lt.mpr (by rw [z]; exact hSge))⟩
  have kp : ∀ b u, H b = some u → upd (putT2 H as ps) S (.lst (as.map V.ref)) b = some u := fun b u e => by
    rw [off b (fun z => by rw [new b z] at e; cases e) (fun z => by rw [z, newS] at e; cases e)]
    exact e
  refine ⟨newS, new, hSn, nd, ?_⟩
  refine I.call' (ch := []) rfl ⟨fun b o q _ _ _ => hk b o q, fun b o q _ _ _ => ⟨o.slots, hk b o q⟩, fun b o q n _ => ?_, fun b o q _ => ⟨o, hk b o q⟩, fun b xs q => kp b _ q, fun b o u q => kp b _ q, fun b ps q => ⟨#[], by rw [kp b _ q]; simp⟩⟩ (fun b u q => ?_) I.bare fun b z => by simp at z
  · obtain ⟨z1, z2⟩ := low b o q
    rw [off b z1 z2]
    exact n
  · by_cases hb2 : b = S
    · rw [hb2] at q ⊢
      rw [upd_same] at q
      cases q
      refine ⟨by rw [List.length_map]; omega, acc.toList, c, by rw [hacc]; exact LiI.vals_refs as, ?_⟩
      rw [Array.toArray_toList]
      exact hS
    · rw [upd_ne hb2] at q
      by_cases hb : b ∈ as
      · obtain ⟨j, pk, e1, e2, e3⟩ := LiI.paired_ix atP hb
        rw [e3] at q
        cases q
        obtain ⟨u, f1, f3⟩ := prs j b e1
        obtain ⟨qv, g1, g2, g3⟩ := LiI.paired_get kv e2
        rw [f1] at g1
        cases g1
        exact ⟨by show 2 ≤ sizeLine; decide, [u.1, u.2], .cons g2 (.cons g3 .nil), ⟨_, f3, rfl, _, rfl⟩⟩
      · rw [putT2_off as ps _ hb] at q
        exact (I.hok b u q).stay (fun d v _ y => hk d v y) (fun d y => kp d _ y) fun d xs y => kp d _ y
theorem pair_zip {P : V → Value → Prop} : ∀ {xs ys : List V} {us vs : List Value}, Paired P xs us → Paired P ys vs → Paired (fun (p : V × V) (u : Value × Value) => P p.1 u.1 ∧ P p.2 u.2) (xs.zip ys) (us.zip vs)
  | [], _, _, _, .nil, _ => by simp; exact .nil
  | _ :: _, [], _ :: _, _, .cons _ _, .nil => .nil
  | x :: xs, y :: ys, u :: us, v :: vs, .cons a t, .cons b t' => .cons ⟨a, b⟩ (pair_zip t t')
def tLz (K : PySem.W.Frag) (ta : TA) : TE := fun σ H Q => ta σ H fun vs H1 => ∃ l1 l2 xs ys, vs = [.ref l1, .ref l2] ∧ SqL K H1 l1 xs ∧ SqL K H1 l2 ys ∧ xs.length = ys.length ∧
  ∀ (p : Addr) (ts : List Addr), H1 p = none → (∀ t ∈ ts, H1 t = none) → p ∉ ts → ts.Nodup → ts.length = (xs.zip ys).length → Q (.ref p) (upd (putT2 H1 ts (xs.zip ys)) p (.lst (ts.map V.ref)))
theorem pe_listzip {e e2 : Expr} {ta : TA} {p p2 pos cpos : Pos} (hc : X.calm = true) (hgl : Gl X "list") (hml : X.mg "list" = none) (hg : Gl X "zip") (hm : X.mg "zip" = none) (ha : PA X [e, e2] ta)
    (hs : starEach [e, e2] X.env = (false, eval e X.env) :: starEach [e2] X.env) (hpl : (backTo cpos (starEach [e2] X.env)).any (·.1) = false)
    (hsl : starEach [.Call (.Name "zip" p) [e, e2] [] cpos] X.env = (false, eval (.Call (.Name "zip" p) [e, e2] [] cpos) X.env) :: starEach [] X.env) :
    PE X (.Call (.Name "list" p2) [.Call (.Name "zip" p) [e, e2] [] cpos] [] pos) (tLz X.K ta) := by
  refine ⟨fun pins s σ H Q I h => ?_⟩
  refine Call_ (ld_blt I hgl hml PyProof.Rows.boot_list (PyProof.Rows.callWith_type1 (args_cons ?_ hsl) hsl rfl))
  refine Call_ (ld_blt I hg hm PyProof.Rows.boot_zip (PyProof.Rows.callWith_type1 (thn (ha.run cpos pins s σ H _ I h) fun us s1 ⟨vs, H1, I1, r1, q1⟩ => ?_) hs hpl))
  obtain ⟨l1, l2, xs, ys, rfl, hx, hy, hxy, q⟩ := q1
  obtain ⟨u1, u2, rfl, ru1, ru2⟩ := vals2 r1
  obtain rfl : u1 = Value.ref l1 := ru1
  obtain rfl : u2 = Value.ref l2 := ru2
  obtain ⟨its1, rv1, p1, z1⟩ := I1.list hx
  obtain ⟨its2, rv2, p2, z2⟩ := I1.list hy
  have L1 := p1.isList
  have L2 := p2.isList
  have lt1 : l1 < s1.heap.objs.size := p1.lt
  have lt2 : l2 < s1.heap.objs.size := p2.lt
  have ex1 : its1.toArray.size = xs.length := by rw [rv1.length]; simp
  have ex2 : its2.toArray.size = ys.length := by rw [rv2.length]; simp
  refine call_zip_2 L1 L2 fun h1 hz hTI hTO hi1 hi2 hsz hk => ?_
  refine args_nil ?_
  have zz : xs.length ≤ sizeLine := z1
  refine zil_call (s := { s1 with heap := h1 }) (xs := its1.toArray) (ys := its2.toArray) (I1.ok.hd hc) (zipApart_new lt1 lt2) (by rw [ex1]; exact zz) (by rw [ex1, ex2, hxy]) hz hTI hTO hi1 hi2 (L1.at fun o e => hk _ o e) (L2.at fun o e => hk _ o e) fun h' tk acc c as hk' hS hl hG hacc => ?_
  have kv := pair_zip rv1 rv2
  have hge : s1.heap.objs.size ≤ h1.objs.size := by rw [hsz]; exact Nat.le_add_right _ _
  have hl2 : as.length = (xs.zip ys).length := by rw [hl, ex1, List.length_zip, ← hxy, Nat.min_self]
  have kk : ∀ b o, s1.heap.get? b = some o → h'.get? b = some o := fun b o e => hk' b o (fun m => by
    have := Heap.lt_size e
    simp only [List.mem_cons, List.not_mem_nil, or_false] at m
    rcases m with m | m | m | m
    · rw [m] at this; exact absurd this (Nat.not_lt.mpr (Nat.le_add_right _ _))
    · rw [m] at this; exact absurd this (Nat.not_lt.mpr (Nat.le_add_right _ _))
    · rw [m] at this; exact absurd this (Nat.lt_irrefl _)
    · rw [m] at this; exact absurd this (Nat.not_lt.mpr (Nat.le_add_right _ _))) (hk b o e)
  have pp : ∀ (j : Nat) (a : Addr), as[j]? = some a → ∃ u, (its1.zip its2)[j]? = some u ∧ IsPair h' a u.1 u.2 := fun j a hj => by
    obtain ⟨x, y, f1, f2, f3⟩ := hG.pairs j a hj
    exact ⟨(x, y), List.getElem?_zip_eq_some.mpr ⟨by simpa using f1, by simpa using f2⟩, f3⟩
  obtain ⟨k1, k2, k3, k4, J⟩ := zip_laid (tk := tk) (S := h1.objs.size) (h' := h') I1 (by rw [hl, ex1]; exact zz) kv hge kk hS hl2 hG.rise hG.above pp hacc
  exact ⟨.ref h1.objs.size, _, J, rfl, q _ as k1 k2 k3 k4 hl2⟩
theorem reps_pairs {K : PySem.W.Frag} {G : Hp} : ∀ (ts : List Addr) (us ws : List V) (xs ys : List PyData), Reps K G us xs → Reps K G ws ys → Paired (fun (t : Addr) (q : V × V) => G t = some (.tup [q.1, q.2])) ts (us.zip ws) → Reps K G (ts.map V.ref) ((xs.zip ys).map fun p => .tuple [p.1, p.2])
  | _, _, _, [], _, .nil, _, h => by simp at h; cases h; exact .nil
  | _, _, _, _ :: _, [], .cons _ _, .nil, h => by simp at h; cases h; exact .nil
  | _, _, _, _ :: _, _ :: _, .cons a1 r1, .cons a2 r2, h => by
    cases h with
    | cons e0 t0 => exact .cons (.tup (SqT.of e0) (.cons a1 (.cons a2 .nil))) (reps_pairs _ _ _ _ _ r1 r2 t0)
theorem dp_listzip {δ : Dl} {a b : Expr} {p0 p1 pos cpos : Pos} {xs ys : List PyData} (B : Bi X.mg) (h1 : DP X a δ (.list xs)) (h2 : DP X b δ (.list ys)) (hxy : xs.length = ys.length) (hc : X.calm = true := by rfl) (hgl : Gl X "list" := by rfl) (hg : Gl X "zip" := by rfl) (hs : starEach [a, b] X.env = (false, eval a X.env) :: starEach [b] X.env := by rfl) (hs2 : starEach [b] X.env = [(false, eval b X.env)] := by rfl)
    (hsl : starEach [.Call (.Name "zip" p0) [a, b] [] cpos] X.env = (false, eval (.Call (.Name "zip" p0) [a, b] [] cpos) X.env) :: starEach [] X.env := by rfl) : DP X (.Call (.Name "list" p1) [.Call (.Name "zip" p0) [a, b] [] cpos] [] pos) δ (.list ((xs.zip ys).map fun p => .tuple [p.1, p.2])) := fun F σ H sm sl Q q =>
  wE_of (pe_listzip hc hgl B.list hg B.zip pa_star hs (by rw [hs2]; rfl) hsl) (da_cons h1 (da_cons h2 da_nil hs2) hs F σ H sm sl _ fun vs F1 H1 x1 rs => by
    cases rs with
    | cons r1 t =>
      cases t with
      | cons r2 t =>
        cases t
        cases r1 with
        | @lst l1 us _ f1 s1 =>
          cases r2 with
          | @lst l2 ws _ f2 s2 =>
            refine ⟨l1, l2, us, ws, rfl, SqL.of (x1.s _ _ f1), SqL.of (x1.s _ _ f2), by rw [s1.len, s2.len, hxy], fun p ts n1 n2 n3 n4 n5 => ?_⟩
            have xa := xt_pairs ts (us.zip ws) x1 n4 n2
            have nP : putT2 H1 ts (us.zip ws) p = none := by rw [putT2_off ts _ _ n3]; exact n1
            have xb := xa.trans (.new (o := .lst (ts.map V.ref)) xa.s nP)
            refine q _ _ _ xb (.lst upd_same ?_)
            have same1 : Same F1 (upd (putT2 F1 ts (us.zip ws)) p (.lst (ts.map V.ref))) := fun b o e => by
              rw [upd_ne (fun z => by rw [z, x1.s.free n1] at e; cases e), putT2_off ts _ _ (fun z => by rw [x1.s.free (n2 b z)] at e; cases e)]
              exact e
            have atP := putT2_at ts (us.zip ws) F1 n5 n4
            have atQ : Paired (fun (t : Addr) (q : V × V) => upd (putT2 F1 ts (us.zip ws)) p (.lst (ts.map V.ref)) t = some (.tup [q.1, q.2])) ts (us.zip ws) := pairedCut atP fun t ht q e => by rw [upd_ne (fun z => n3 (by rw [← z]; exact ht))]; exact e
            have t1 := s1.mono same1
            have t2 := s2.mono same1
            exact reps_pairs _ _ _ _ _ t1 t2 atQ)
end
end SS
set_option maxHeartbeats 4000000
/-! The data layer, nine: ranges as values and from their end, texts times ints, the module's dicts, long numbers as texts, small displays. -/
namespace SS
open PySem PySem.Spec PyProof.Rows L2
section
variable {X : Cx} {δ : Dl} {a b c e tg : Expr} {es : List Expr} {pos p0 p1 cpos : Pos} {d d1 d2 : PyData} {ds : List PyData} {i j n : Int} {p q : Bool} {m : Nat}
/-! ranges -/
theorem yields_rev {K : PySem.W.Frag} {F : Hp} {m : Nat} : Yields K (Itc ((0 : Int) + (((m : Nat) : Int)) - 1) (-1) m) (rngD 0 m).reverse F := fun i F2 H2 s1 s2 =>
  ⟨fun x hx => by
    have hi : i < (rngD 0 m).reverse.length := (List.getElem?_eq_some_iff.mp hx).1
    have hl : (rngD 0 m).length = m := by unfold rngD; rw [List.length_map, List.length_range]
    rw [List.length_reverse, hl] at hi
    rw [List.getElem?_reverse (by rw [hl]; exact hi), hl] at hx
    obtain ⟨h1, rfl⟩ := rngD_get hx
    refine ⟨hi, fun u H3 ⟨e, k⟩ => by
      subst e; subst k
      refine ⟨F2, .refl s2, ?_⟩
      have e3 : (0 : Int) + ((m : Nat) : Int) - 1 + ((i : Nat) : Int) * -1 = 0 + ((m - 1 - i : Nat) : Int) := by omega
      rw [e3]
      exact .int _⟩, fun hl => by
    have hl2 : (rngD 0 m).length = m := by unfold rngD; rw [List.length_map, List.length_range]
    rw [List.length_reverse, hl2] at hl; subst hl; exact Nat.le_refl _⟩
theorem di_rev (B : Bi X.mg) (h : DP X a δ (.int n)) (hn : n.toNat = m) (hz : m ≤ 1000000) (h0 : 0 ≤ n) (hg : Gl X "reversed" := by rfl) (hg2 : Gl X "range" := by rfl) (hs : starEach [.Call (.Name "range" p0) [a] [] cpos] X.env = (false, eval (.Call (.Name "range" p0) [a] [] cpos) X.env) :: starEach [] X.env := by rfl) (hs2 : starEach [a] X.env = (false, eval a X.env) :: starEach [] X.env := by rfl) :
    DI X tg (.Call (.Name "reversed" p1) [.Call (.Name "range" p0) [a] [] cpos] [] pos) δ (rngD 0 m).reverse := fun F σ H sm sl R q =>
  wI_of (pi_revR hg B.reversed (prg_1 hg2 B.range pe_star hs2) hs) (h F σ H sm sl _ fun v F1 H1 x1 r => by
    cases r
    refine ⟨n, rfl, by omega, by omega, by omega, by omega, q _ F1 H1 x1 ?_⟩
    have e1 : (n - 0).toNat = m := by omega
    rw [e1]
    exact yields_rev)
theorem df_listRg (B : Bi X.mg) (h : DP X a δ (.int n)) (hn : n.toNat = m) (hz : m ≤ 1000000) (h0 : 0 ≤ n) (hc : X.calm = true := by rfl) (hg : Gl X "list" := by rfl) (hg2 : Gl X "range" := by rfl) (hs : starEach [.Call (.Name "range" p0) [a] [] cpos] X.env = (false, eval (.Call (.Name "range" p0) [a] [] cpos) X.env) :: starEach [] X.env := by rfl) (hs2 : starEach [a] X.env = (false, eval a X.env) :: starEach [] X.env := by rfl) :
    DF X (.Call (.Name "list" p1) [.Call (.Name "range" p0) [a] [] cpos] [] pos) δ (rngD 0 m) := fun F σ H sm sl Q q =>
  wE_of (pe_listRg hc hg B.list (prg_1 hg2 B.range pe_star hs2) hs) (h F σ H sm sl _ fun v F1 H1 x1 r => by
    cases r
    refine ⟨n, rfl, ⟨by omega, by omega, by omega, by omega, by omega⟩, fun p hp => q p _ F1 _ ⟨x1.f, x1.h.trans (same_new hp), x1.s.trans (same_new hp), x1.n⟩ (x1.s.free hp) (x1.h.free hp) upd_same ?_⟩
    have e1 : (n - 0).toNat = m := by omega
    unfold rgV rngD
    rw [e1]
    clear e1 hn hz
    induction (List.range m) with
    | nil => exact .nil
    | cons k l ih => exact .cons (.int _) ih)
/-! texts times ints -/
def rMulS : R2 := fun x y H Q => ∃ z k, x = .str z ∧ y = .int k ∧ 0 ≤ k ∧ k ≤ 10000 ∧ z.length ≤ 1000 ∧ Q (.str (Txt.mul z k)) H
theorem op_mulS : OpR X (binaryOp .Mult) rMulS := by
  intro pins s σ H x y v u Q I rx ry h
  obtain ⟨z, k, rfl, rfl, h0, h1, h2, q⟩ := h
  obtain ⟨t, rfl⟩ := rx
  obtain ⟨t', rfl⟩ := ry
  refine SB.mul ⟨?_, fun _ _ => ?_, fun _ _ => ?_⟩ fun t2 tk => ⟨.str _, H, I.tok _, ⟨_, rfl⟩, q⟩
  · rw [decide_eq_false (by omega), decide_eq_false (by omega)]; rfl
  · have h3 : (1000 : Int) ≤ (2 ^ 63 - 1) / k := by
      rw [Int.le_ediv_iff_mul_le (by omega)]; omega
    omega
  · have : z.length * k.toNat ≤ 1000 * 10000 := Nat.mul_le_mul h2 (by omega)
    show decide (_ > _) = false
    rw [decide_eq_false]
    rw [sizeLine_eq]; omega
theorem dp_mulS {z : Str} (ha : DP X a δ (.str z)) (hb : DP X b δ (.int i)) (h0 : 0 ≤ i) (h1 : i ≤ 10000) (h2 : z.length ≤ 1000) : DP X (.BinOp a .Mult b pos) δ (.str (Txt.mul z i)) := dp_bop op_mulS ha hb fun x y F H sm rx ry Q q => by
  cases rx; cases ry; exact ⟨_, _, rfl, rfl, h0, h1, h2, q _ F H (.refl sm) (.str _)⟩

/-! long numbers as texts -/
def ND (K : PySem.W.Frag) : Prop := ∀ h : Heap, K.In h → h.NoDigits
theorem call_strB (nd : ND X.K) (hc : X.calm = true) : CallR X (.type "str") (fun xs H Q => ∃ i, xs = [.int i] ∧ i.natAbs < 10 ^ 4300 ∧ Q (.str (toString i)) H) := by
  intro pins s σ H xs us Q I r h
  obtain ⟨i, rfl, hz, q⟩ := h
  obtain ⟨u, rfl, t, rfl⟩ := vals1 r
  exact PyProof.Rows.str_of_int_or (I.ok.hd hc) (nd _ I.kIn) (fun _ => ⟨.str _, H, I.tok _, ⟨_, rfl⟩, q⟩) (fun h => absurd hz (Nat.not_lt.mpr h))
theorem dp_strB (B : Bi X.mg) (nd : ND X.K) (h : DP X a δ (.int i)) (hn : i.natAbs < 10 ^ 4300) (hc : X.calm = true := by rfl) (hg : Gl X "str" := by rfl) (he : starEach [a] X.env = [(false, eval a X.env)] := by rfl) : DP X (.Call (.Name "str" p0) [a] [] pos) δ (.str (Str.ofString (toString i))) :=
  dp_callTy (call_strB nd hc) hg B.str PyProof.Rows.boot_str (da_cons h da_nil he) (fun vs F H sm rs Q q => by
    cases rs with | cons r t => cases t; cases r; exact ⟨i, rfl, hn, q _ F H (.refl sm) (.str _)⟩) (by decide) (by decide) he (by rfl)
/-! the module's dicts -/
structure KD (K : PySem.W.Frag) (w : World) (mg : Str → Option Value) (x : Str) (tab : List (Str × Option PyData)) : Prop where
  ex : ∃ (d : Addr) (es : Array DictEntry) (n : Nat), KDict K w d es n ∧ mg x = some (.ref d) ∧ (∀ z, (z, none) ∈ tab → PySem.W.nsIn K d z = some none) ∧ ∀ z dd, (z, some dd) ∈ tab → ∃ u0 v0, PySem.W.nsIn K d z = some (some u0) ∧ RelV v0 u0 ∧ ∀ F, Rep K F v0 dd
def rKd (K : PySem.W.Frag) : R2 := fun x y H Q => ∃ (d : Addr) (z : Str) (u0 : Value) (v0 : V), x = .ref d ∧ y = .str z ∧ PySem.W.nsIn K d z = some (some u0) ∧ RelV v0 u0 ∧ Q v0 H
theorem ix_kd {d : Addr} {es : Array DictEntry} {n : Nat} (D : KDict X.K X.w d es n) : IxR X (fun x y H Q => ∃ (z : Str) (u0 : Value) (v0 : V), x = .ref d ∧ y = .str z ∧ PySem.W.nsIn X.K d z = some (some u0) ∧ RelV v0 u0 ∧ Q v0 H) := by
  intro value slice pins s σ H x y v u Q I rx ry h hs
  obtain ⟨z, u0, v0, rfl, rfl, e, r, q⟩ := h
  cases rx
  obtain ⟨t, rfl⟩ := ry
  exact tail_any (kd_type D I) PySem.F.slot_dict_getitem.lookup (wpAny_getItem_of (PySem.strKind_is X.prog X.w z t) (PySem.W.mapOf_K (prog := X.prog) I.kIn D.at_ D.lit) (PySem.W.find_K D.at_ e) ⟨v0, H, I.tok _, r, q⟩) hs
variable {x z : Str} {tab : List (Str × Option PyData)}
theorem dt_inKd (D : KD X.K X.w X.mg x tab) (ha : DP X a δ (.str z)) (hx : (z, some d) ∈ tab) (hg : Gl X x := by rfl) (hd : (x == ("__debug__" : Str)) = false := by decide) : DT X (.Compare a [.In] [.Name x p0] pos) δ true := fun F σ H sm sl Q q => by
  obtain ⟨dd, es, n, D, hm, _, h2⟩ := D.ex
  obtain ⟨u0, v0, e, r, _⟩ := h2 z d hx
  exact wT_of (pt_cmpR (op_in_kd D) pe_star (pe_glob (v := .ref dd) hg hm rfl hd) (by first | exact nomark _ | rfl)) (ha F σ H sm sl _ fun v F1 H1 x1 rx => by
    cases rx
    exact ⟨z, some (some u0) |>.get rfl, rfl, rfl, e, ⟨true, rfl, q F1 H1 x1⟩⟩)
theorem dt_notInKd (D : KD X.K X.w X.mg x tab) (ha : DP X a δ (.str z)) (hx : (z, some d) ∈ tab) (hg : Gl X x := by rfl) (hd : (x == ("__debug__" : Str)) = false := by decide) : DT X (.Compare a [.NotIn] [.Name x p0] pos) δ false := fun F σ H sm sl Q q => by
  obtain ⟨dd, es, n, D, hm, _, h2⟩ := D.ex
  obtain ⟨u0, v0, e, r, _⟩ := h2 z d hx
  exact wT_of (pt_cmpR (op_notIn_kd D) pe_star (pe_glob (v := .ref dd) hg hm rfl hd) (by first | exact nomark _ | rfl)) (ha F σ H sm sl _ fun v F1 H1 x1 rx => by
    cases rx
    exact ⟨z, some u0, rfl, rfl, e, ⟨false, rfl, q F1 H1 x1⟩⟩)
theorem dt_notInKd0 (D : KD X.K X.w X.mg x tab) (ha : DP X a δ (.str z)) (hx : (z, none) ∈ tab) (hg : Gl X x := by rfl) (hd : (x == ("__debug__" : Str)) = false := by decide) : DT X (.Compare a [.NotIn] [.Name x p0] pos) δ true := fun F σ H sm sl Q q => by
  obtain ⟨dd, es, n, D, hm, h2, _⟩ := D.ex
  exact wT_of (pt_cmpR (op_notIn_kd D) pe_star (pe_glob (v := .ref dd) hg hm rfl hd) (by first | exact nomark _ | rfl)) (ha F σ H sm sl _ fun v F1 H1 x1 rx => by
    cases rx
    exact ⟨z, none, rfl, rfl, h2 z hx, ⟨true, rfl, q F1 H1 x1⟩⟩)
theorem dp_ixKd (D : KD X.K X.w X.mg x tab) (ha : DP X a δ (.str z)) (hx : (z, some d) ∈ tab) (hg : Gl X x := by rfl) (hd : (x == ("__debug__" : Str)) = false := by decide) (hs : PlainIx a := by exact fun _ _ => rfl) : DP X (.Subscript (.Name x p0) a pos) δ d := fun F σ H sm sl Q q => by
  obtain ⟨dd, es, n, D, hm, _, h2⟩ := D.ex
  obtain ⟨u0, v0, e, r, rep⟩ := h2 z d hx
  exact wE_of (pe_ix (ix_kd D) (pe_glob (v := .ref dd) hg hm rfl hd) pe_star hs) (ha F σ H sm sl _ fun v F1 H1 x1 rx => by
    cases rx
    exact ⟨z, u0, v0, rfl, rfl, e, r, q _ F1 H1 x1 (rep _)⟩)
end
end SS
set_option maxHeartbeats 4000000
/-! The data layer, ten: comprehensions whose elements change objects; dicts that change; small displays; targets that take a list apart; `in`. -/
namespace SS
open PySem PySem.Spec PyProof.Rows L2
/-! ### comprehensions whose elements change owned objects -/
def wipeS (ρ : List SV) : List Nat → List SV
  | [] => ρ
  | v :: vs => (wipeS ρ vs).set v .un
theorem SR.unset {K : PySem.W.Frag} {ρ : List SV} {O : Rs} {F : Hp} {A : List Addr} {σ : L2.St} {H : Hp} {i : Nat} {o : Option V} (s : SR K ρ O F A σ H) : SR K (ρ.set i .un) O F A (σ.set i o) H :=
  s.slots (by simpa using s.sl) fun j u h1 h2 => by
    by_cases hj : i = j
    · subst hj
      by_cases hl : i < ρ.length
      · rw [List.getElem?_set_self hl] at h1; cases h1; exact absurd rfl h2
      · rw [List.getElem?_eq_none (by simpa using hl)] at h1; cases h1
    · rw [List.getElem?_set_ne hj] at h1
      obtain ⟨w, a, b⟩ := s.get j u h1 h2
      exact ⟨w, by rw [List.getElem?_set_ne hj]; exact a, b⟩
theorem SR.wipe {K : PySem.W.Frag} {ρ : List SV} {O : Rs} {F : Hp} {A : List Addr} {σ : L2.St} {H : Hp} (s : SR K ρ O F A σ H) : ∀ vs : List Nat, SR K (wipeS ρ vs) O F A (L2.wipe σ vs) H
  | [] => s
  | v :: vs => by unfold wipeS L2.wipe; exact (s.wipe vs).unset
section
variable {X : Cx} {ρ : List SV} {O : Rs} {elt tg iter : Expr} {scope : Scope} {own : List (Str × Nat)} {pos : Pos} {post : Post}
theorem lcE_core 
    (hi : DIe X tg iter ρ O fun xs O1 => xs.length ≤ 1000000 ∧ ∃ I : Nat → Rs → Prop, I 0 (O1 ++ [.lst []]) ∧
      (∀ i x O', xs[i]? = some x → I i O' → ∃ ps, (∀ q ∈ ps, q.1 ∈ own.map (·.2)) ∧ (Blk X scope fun Y => DG Y tg x ps) ∧ Blk X scope fun Y => DE Y elt (setS ps (wipeS ρ (own.map (·.2)))) O' fun sv O2 => ∃ acc, O2[O1.length]? = some (.lst acc) ∧ acc.length < 1000000 ∧ I (i + 1) (O2.set O1.length (.lst (acc ++ [sv])))) ∧
      ∀ O', I xs.length O' → post (.ptr O1.length) O') :
    ∀ (F : Hp) (A : List Addr) (σ : L2.St) (H : Hp), SR X.K ρ O F A σ H → ∀ Q : VK, (∀ v F' A' H' sv O', post sv O' → Xs F A H F' A' H' → SR X.K ρ O' F' A' σ H' → RepV X.K F' A' sv v → Q v H') → tLc (wI X tg iter) (bG X scope tg) (bTs X scope []) (bE X scope elt) (own.map (·.2)) σ H Q := fun F A σ H s Q q =>
  hi F A σ H s _ fun J F1 A1 H1 xs O1 p x1 s1 y => by
    obtain ⟨hz, I, h0, ht, hd⟩ := p
    intro D hD
    have fD : F1 D = none := s1.ex.free hD
    have nA : D ∉ A1 := fun hp => by obtain ⟨o, z⟩ := s1.tracked hp; rw [hD] at z; cases z
    have sD := s1.new (c := .lst []) (o := .lst []) hD ⟨[], upd_same, .nil⟩
    have xD : Xs F1 A1 H1 F1 (A1 ++ [D]) (upd H1 D (.lst [])) := .new hD
    have atD : (A1 ++ [D])[O1.length]? = some D := by rw [← s1.len]; simp
    refine ⟨fun i m H2 => m = xs.length - i ∧ i ≤ xs.length ∧ ∃ O2 F2 A2, I i O2 ∧ Xs F1 (A1 ++ [D]) (upd H1 D (.lst [])) F2 A2 H2 ∧ SR X.K ρ O2 F2 A2 σ H2, ⟨xs.length, by simp, Nat.zero_le _, _, F1, _, h0, .refl, sD⟩, ?_⟩
    rintro i m H2 ⟨rfl, hle, O2, F2, A2, hI, x2, s2⟩
    obtain ⟨y1, y2⟩ := y i F2 H2 x2.f s2.ex
    by_cases hlt : i < xs.length
    · have hx : xs[i]? = some xs[i] := List.getElem?_eq_getElem hlt
      obtain ⟨g1, g2⟩ := y1 _ hx
      refine .inr ⟨g1, fun H' => i + 1 ≤ xs.length ∧ ∃ O2 F2 A2, I (i + 1) O2 ∧ Xs F1 (A1 ++ [D]) (upd H1 D (.lst [])) F2 A2 H' ∧ SR X.K ρ O2 F2 A2 σ H', fun H' h => ⟨xs.length - (i + 1), by omega, rfl, h.1, h.2⟩, fun v H3 hy => ?_⟩
      obtain ⟨F3, x3, rv⟩ := g2 v H3 hy
      obtain ⟨ps, hp, hg, he⟩ := ht i _ O2 hx hI
      have s3 := s2.pure x3
      have x3' : Xs F1 (A1 ++ [D]) (upd H1 D (.lst [])) F3 A2 H3 := x2.trans (.pure x3)
      intro ss H0 C cl fp
      refine hg ss H0 C cl fp F3 _ H3 v x3.s rv _ fun us ru => ⟨(setV_wipe fun k hk => ?_).trans (wipe_wipe _ _), ?_⟩
      · obtain ⟨q', hq', e⟩ := List.mem_map.mp hk
        rw [← e]
        exact hp q' hq'
      intro ss H0 C cl fp
      refine wTs_of (X := X.blk ss H0 scope (compEnvC scope cl C X.env) fp) pts_nil ?_
      unfold tYes
      show (if true = true then _ else _)
      rw [if_pos rfl]
      intro ss H0 C cl fp
      have s4 : SR X.K (setS ps (wipeS ρ (own.map (·.2)))) O2 F3 A2 (setV (ps.map (·.1)) us (L2.wipe σ (own.map (·.2)))) H3 := (s3.wipe _).sets ru
      refine he ss H0 C cl fp F3 A2 _ H3 s4 _ fun w F5 A5 H5 sv O5 p5 x5 s5 r5 => ?_
      obtain ⟨acc, e1, e2, hI5⟩ := p5
      have hA5 : A5[O1.length]? = some D := by
        obtain ⟨B, e, _⟩ := (x3'.trans x5).p
        rw [e]; exact preGet atD
      obtain ⟨vs, g3, g4⟩ := s5.at e1 hA5
      have hl : acc.length = vs.length := g4.length
      have app : RepVs X.K F5 A5 (acc ++ [sv]) (vs ++ [w]) := by
        clear e1 e2 hI5 g3 hl
        induction acc generalizing vs with
        | nil => cases g4; exact .cons r5 .nil
        | cons a acc ih => cases g4 with | cons r t => exact .cons r (ih _ t)
      have s6 := s5.no.write (c := .lst (acc ++ [sv])) (o := .lst (vs ++ [w])) hA5 (List.getElem?_eq_some_iff.mp e1).1 (by rw [e1]; intro q; cases q) ⟨_, upd_same, app⟩
      have x6 : Xs F1 (A1 ++ [D]) (upd H1 D (.lst [])) F5 A5 (upd H5 D (.lst (vs ++ [w]))) := (x3'.trans x5).trans (.write hA5)
      exact ⟨vs, g3, by rw [← hl]; exact Nat.lt_of_lt_of_le e2 (by decide), hlt, _, F5, A5, hI5, x6, s2.back ((Xs.pure x3).trans (x5.trans (.write hA5))) s6⟩
    · have ei : i = xs.length := by omega
      subst ei
      refine .inl ⟨y2 rfl, q _ F2 A2 H2 _ O2 (hd O2 hI) ((x1.trans xD).trans x2) s2 ⟨D, ?_, rfl⟩⟩
      obtain ⟨B, e, _⟩ := x2.p
      rw [e]; exact preGet atD
theorem de_lcE (hc : X.calm = true) (hN : X.N.Nodup) (ok : BlkOk X.N X.env.scope scope own)
    (hi : DIe X tg iter ρ O fun xs O1 => xs.length ≤ 1000000 ∧ ∃ I : Nat → Rs → Prop, I 0 (O1 ++ [.lst []]) ∧
      (∀ i x O', xs[i]? = some x → I i O' → ∃ ps, (∀ q ∈ ps, q.1 ∈ own.map (·.2)) ∧ (Blk X scope fun Y => DG Y tg x ps) ∧ Blk X scope fun Y => DE Y elt (setS ps (wipeS ρ (own.map (·.2)))) O' fun sv O2 => ∃ acc, O2[O1.length]? = some (.lst acc) ∧ acc.length < 1000000 ∧ I (i + 1) (O2.set O1.length (.lst (acc ++ [sv])))) ∧
      ∀ O', I xs.length O' → post (.ptr O1.length) O')
    (hs : ∀ x, foldedSetIterable iter X.env x = pure x := by intro _; rfl) : DE X (.ListComp elt [⟨tg, iter, [], 0⟩] scope pos) ρ O post := fun F A σ H s Q q =>
  wE_of (pe_lc hc hN pi_star ok pg_blk pts_blk pe_blk hs) (lcE_core hi F A σ H s Q q)
end

/-! ### dicts that change -/
section
variable {κ β : Type} [DecidableEq κ]
def lkG (kvs : List (κ × β)) (k : κ) : Option β := (kvs.find? fun kv => decide (kv.1 = k)).map (·.2)
def ptG (kvs : List (κ × β)) (k : κ) (v : β) : List (κ × β) :=
  if (kvs.any fun kv => decide (kv.1 = k)) = true then kvs.map (fun kv => if kv.1 = k then (kv.1, v) else kv) else kvs ++ [(k, v)]
theorem lkG_paired {P : β → V → Prop} {k : κ} : ∀ {kvs : List (κ × β)} {kv : List (κ × V)}, Paired (fun (p : κ × β) (q : κ × V) => p.1 = q.1 ∧ P p.2 q.2) kvs kv →
    (lkG kvs k = none → valV kv k = none) ∧ ∀ sv, lkG kvs k = some sv → ∃ v, valV kv k = some v ∧ P sv v
  | _, _, .nil => ⟨fun _ => rfl, fun sv h => by simp [lkG] at h⟩
  | p :: kvs, q :: kv, .cons r t => by
    obtain ⟨i1, i2⟩ := lkG_paired (k := k) t
    by_cases h : p.1 = k
    · have h' : q.1 = k := r.1 ▸ h
      refine ⟨fun e => by simp [lkG, List.find?_cons, h] at e, fun sv e => ?_⟩
      have e' : p.2 = sv := by simpa [lkG, List.find?_cons, h] using e
      exact ⟨q.2, valV_pos h', e' ▸ r.2⟩
    · have h' : ¬ q.1 = k := r.1 ▸ h
      have e1 : lkG (p :: kvs) k = lkG kvs k := by simp [lkG, List.find?_cons, h]
      have e2 : valV (q :: kv) k = valV kv k := by simp [valV, List.find?_cons, h']
      rw [e1, e2]
      exact ⟨i1, i2⟩
theorem ptG_paired {P : β → V → Prop} {k : κ} {sv : β} {v : V} {kvs : List (κ × β)} {kv : List (κ × V)} (r : Paired (fun (p : κ × β) (q : κ × V) => p.1 = q.1 ∧ P p.2 q.2) kvs kv) (hv : P sv v) : Paired (fun (p : κ × β) (q : κ × V) => p.1 = q.1 ∧ P p.2 q.2) (ptG kvs k sv) (putK kv k v) := by
  have ea : (kvs.any fun kv => decide (kv.1 = k)) = kv.any fun kv => decide (kv.1 = k) := by
    induction r with
    | nil => rfl
    | cons a t ih => simp only [List.any_cons]; rw [ih, a.1]
  unfold ptG putK
  rw [ea]
  split
  · rename_i hz; clear ea hz
    induction r with
    | nil => exact .nil
    | @cons p q ps qs a t ih =>
      refine .cons ?_ ih
      by_cases h : p.1 = k
      · have h' : q.1 = k := a.1 ▸ h
        simp only [h, h', if_true]
        exact ⟨trivial, hv⟩
      · have h' : ¬ q.1 = k := a.1 ▸ h
        simp only [h, h', if_false]
        exact a
  · rename_i hz; clear ea hz
    induction r with
    | nil => exact .cons ⟨rfl, hv⟩ .nil
    | cons a t ih => exact .cons a ih
end

def keyD : Key → PyData
  | .inl i => .int i
  | .inr x => .str x
theorem rep_key {K : PySem.W.Frag} {F : Hp} {v : V} {k : Key} (r : Rep K F v (keyD k)) : v = kV k := by
  cases k with
  | inl i => cases r; rfl
  | inr x => cases r; rfl
theorem reps_keys {K : PySem.W.Frag} {F : Hp} : ∀ {ks : List Key} {vs : List V}, Reps K F vs (ks.map keyD) → vs = ks.map kV
  | [], _, .nil => rfl
  | k :: ks, _, .cons r t => by rw [rep_key r, reps_keys t]; rfl
section
variable {X : Cx} {ρ : List SV} {O : Rs} {e a b o i : Expr} {rest : List Stmt} {nx : Nx} {rt : Post} {post : Post} {pos p0 pos' : Pos} {sv : SV}
/-- o[i], o an owned dict with flat keys -/
theorem de_dgetK (hu : X.A.units + 1 < cLine) (ho : DE X o ρ O fun so O1 => ∃ k kvs kx sv, so = .ptr k ∧ O1[k]? = some (.dK kvs) ∧ DP X i (view ρ) (keyD kx) ∧ lkG kvs kx = some sv ∧ post sv O1) (hs : NoSl i := by exact fun _ _ => rfl) : DE X (.Subscript o i pos) ρ O post := fun F A σ H s Q q =>
  wE_of (pe_dget hu pe_star pe_star hs) (ho F A σ H s _ fun x F1 A1 H1 sx O1 p1 x1 s1 r1 => by
    obtain ⟨k, kvs, kx, sv, rfl, g1, hi, g2, p1⟩ := p1
    refine hi F1 σ H1 s1.ex s1.view _ fun y F2 H2 x2 r2 => ?_
    have s2 := s1.pure x2
    obtain ⟨ad, ha, rfl⟩ := r1
    obtain ⟨kv, h1, h2⟩ := s2.at g1 ha
    obtain ⟨v, h3, h4⟩ := (lkG_paired (k := kx) h2).2 sv g2
    refine ⟨ad, v, rfl, ?_, q v F2 A1 H2 sv O1 p1 (x1.trans (.pure x2)) s2 h4⟩
    rw [rep_key r2, ← h3]
    exact DGet.k h1)
/-- o[i], o an owned dict whose keys are tuples -/
theorem de_dgetT (hu : X.A.units + 1 < cLine) (ho : DE X o ρ O fun so O1 => ∃ k kvs kx sv, so = .ptr k ∧ O1[k]? = some (.dT kvs) ∧ DP X i (view ρ) (.dict [(.tuple (kx.map keyD), .none)]) ∧ lkG kvs kx = some sv ∧ post sv O1) (hs : NoSl i := by exact fun _ _ => rfl) : DE X (.Subscript o i pos) ρ O post := fun F A σ H s Q q =>
  wE_of (pe_dget hu pe_star pe_star hs) (ho F A σ H s _ fun x F1 A1 H1 sx O1 p1 x1 s1 r1 => by
    obtain ⟨k, kvs, kx, sv, rfl, g1, hi, g2, p1⟩ := p1
    refine hi F1 σ H1 s1.ex s1.view _ fun y F2 H2 x2 r2 => ?_
    have s2 := s1.pure x2
    obtain ⟨ad, ha, rfl⟩ := r1
    obtain ⟨kv, h1, h2⟩ := s2.at g1 ha
    obtain ⟨v, h3, h4⟩ := (lkG_paired (k := kx) h2).2 sv g2
    cases r2 with
    | @stup b vs _ f1 f2 =>
      rw [reps_keys f2] at f1
      refine ⟨ad, v, rfl, ?_, q v F2 A1 H2 sv O1 p1 (x1.trans (.pure x2)) s2 h4⟩
      rw [← h3]
      exact DGet.t h1 (s2.ex _ _ f1))
/-- i not in o -/
theorem dte_dnotinK {post : Bool → Rs → Prop} (hu : X.A.units + 1 < cLine) {kx : Key} (hi : DP X i (view ρ) (keyD kx)) (ho : DE X o ρ O fun so O1 => ∃ k kvs, so = .ptr k ∧ O1[k]? = some (.dK kvs) ∧ post (!(lkG kvs kx).isSome) O1) (hm : behindInMarks .NotIn o = false := by first | exact nomark _ | rfl) : DTe X (.Compare i [.NotIn] [o] pos) ρ O post := fun F A σ H s Q q =>
  wT_of (pt_cmp (pc_dnotin hu pe_star pe_star) hm) (hi F σ H s.ex s.view _ fun y F1 H1 x1 r1 => ho F1 A σ H1 (s.pure x1) _ fun x F2 A2 H2 sx O2 p x2 s2 r2 => by
    obtain ⟨k, kvs, rfl, g1, p⟩ := p
    obtain ⟨ad, ha, rfl⟩ := r2
    obtain ⟨kv, h1, h2⟩ := s2.at g1 ha
    have hy := rep_key r1
    have hl := lkG_paired (k := kx) h2
    refine ⟨ad, valV kv kx, rfl, by rw [hy]; exact DGet.k h1, !(valV kv kx).isSome, rfl, ?_⟩
    have e1 : (valV kv kx).isSome = (lkG kvs kx).isSome := by
      cases e : lkG kvs kx with
      | none => rw [hl.1 e]; rfl
      | some sv => obtain ⟨v, e2, _⟩ := hl.2 sv e; rw [e2]; rfl
    rw [e1]
    exact q F2 A2 H2 _ O2 p (.trans (.pure x1) x2) s2)
/-- i in o, the keys tuples -/
theorem dte_dinT {post : Bool → Rs → Prop} (hu : X.A.units + 1 < cLine) {kx : List Key} (hi : DP X i (view ρ) (.dict [(.tuple (kx.map keyD), .none)])) (ho : DE X o ρ O fun so O1 => ∃ k kvs, so = .ptr k ∧ O1[k]? = some (.dT kvs) ∧ post (lkG kvs kx).isSome O1) (hm : behindInMarks .In o = false := by first | exact nomark _ | rfl) : DTe X (.Compare i [.In] [o] pos) ρ O post := fun F A σ H s Q q =>
  wT_of (pt_cmp (pc_din hu pe_star pe_star) hm) (hi F σ H s.ex s.view _ fun y F1 H1 x1 r1 => ho F1 A σ H1 (s.pure x1) _ fun x F2 A2 H2 sx O2 p x2 s2 r2 => by
    obtain ⟨k, kvs, rfl, g1, p⟩ := p
    obtain ⟨ad, ha, rfl⟩ := r2
    obtain ⟨kv, h1, h2⟩ := s2.at g1 ha
    have hl := lkG_paired (k := kx) h2
    cases r1 with
    | @stup b vs _ f1 f2 =>
      rw [reps_keys f2] at f1
      refine ⟨ad, valV kv kx, rfl, DGet.t h1 (s2.ex _ _ (x2.f _ _ f1)), (valV kv kx).isSome, rfl, ?_⟩
      have e1 : (valV kv kx).isSome = (lkG kvs kx).isSome := by
        cases e : lkG kvs kx with
        | none => rw [hl.1 e]; rfl
        | some sv => obtain ⟨v, e2, _⟩ := hl.2 sv e; rw [e2]; rfl
      rw [e1]
      exact q F2 A2 H2 _ O2 p (.trans (.pure x1) x2) s2)
/-- o[i] = e -/
theorem ds_dputK (hu : X.A.units + 1 < cLine) (he : DE X e ρ O fun sv O1 => DE X o ρ O1 fun so O2 => ∃ k kvs kx, so = .ptr k ∧ O2[k]? = some (.dK kvs) ∧ DP X i (view ρ) (keyD kx) ∧ kvs.length < 1000000 ∧ DS X rest ρ (O2.set k (.dK (ptG kvs kx sv))) nx rt)
    (hs : swapsWith e (some (.Subscript o i pos')) pos.line X.env = pure false := by rfl) : DS X (.Assign [.Subscript o i pos'] e pos :: rest) ρ O nx rt := fun F A σ H s D q1 q2 =>
  wSs_of (pss_cons (ps_dput hu pe_star pe_star pe_star hs) pss_star) (he F A σ H s _ fun v F1 A1 H1 sv O1 p x1 s1 r1 => p F1 A1 σ H1 s1 _ fun ov F2 A2 H2 so O2 p x2 s2 r2 => by
    obtain ⟨k, kvs, kx, rfl, g1, hi, g3, p⟩ := p
    refine hi F2 σ H2 s2.ex s2.view _ fun y F3 H3 x3 r3 => ?_
    have s3 := s2.pure x3
    obtain ⟨ad, had, rfl⟩ := r2
    obtain ⟨kv, h1, h2⟩ := s3.at g1 had
    have rv : RepV X.K F3 A2 sv v := (r1.xs x2).xs (.pure x3)
    have w := s3.write (c := .dK (ptG kvs kx sv)) (o := .dK (putK kv kx v)) had (List.getElem?_eq_some_iff.mp g1).1 (by rw [g1]; intro q; cases q) ⟨_, upd_same, ptG_paired h2 rv⟩
    refine ⟨ad, _, rfl, by rw [rep_key r3]; exact DPut.k h1 (by rw [← show kvs.length = kv.length from h2.length]; exact Nat.lt_of_lt_of_le g3 (by decide)), p.go (((x1.trans x2).trans (.pure x3)).trans (.write had)) w q1 q2⟩)
theorem ds_dputT (hu : X.A.units + 1 < cLine) (he : DE X e ρ O fun sv O1 => DE X o ρ O1 fun so O2 => ∃ k kvs kx, so = .ptr k ∧ O2[k]? = some (.dT kvs) ∧ DP X i (view ρ) (.dict [(.tuple (kx.map keyD), .none)]) ∧ kvs.length < 1000000 ∧ DS X rest ρ (O2.set k (.dT (ptG kvs kx sv))) nx rt)
    (hs : swapsWith e (some (.Subscript o i pos')) pos.line X.env = pure false := by rfl) : DS X (.Assign [.Subscript o i pos'] e pos :: rest) ρ O nx rt := fun F A σ H s D q1 q2 =>
  wSs_of (pss_cons (ps_dput hu pe_star pe_star pe_star hs) pss_star) (he F A σ H s _ fun v F1 A1 H1 sv O1 p x1 s1 r1 => p F1 A1 σ H1 s1 _ fun ov F2 A2 H2 so O2 p x2 s2 r2 => by
    obtain ⟨k, kvs, kx, rfl, g1, hi, g3, p⟩ := p
    refine hi F2 σ H2 s2.ex s2.view _ fun y F3 H3 x3 r3 => ?_
    have s3 := s2.pure x3
    obtain ⟨ad, had, rfl⟩ := r2
    obtain ⟨kv, h1, h2⟩ := s3.at g1 had
    have rv : RepV X.K F3 A2 sv v := (r1.xs x2).xs (.pure x3)
    cases r3 with
    | @stup b vs _ f1 f2 =>
      rw [reps_keys f2] at f1
      have w := s3.write (c := .dT (ptG kvs kx sv)) (o := .dT (putK kv kx v)) had (List.getElem?_eq_some_iff.mp g1).1 (by rw [g1]; intro q; cases q) ⟨_, upd_same, ptG_paired h2 rv⟩
      exact ⟨ad, _, rfl, DPut.t h1 (s3.ex _ _ f1) (by rw [← show kvs.length = kv.length from h2.length]; exact Nat.lt_of_lt_of_le g3 (by decide)), p.go (((x1.trans x2).trans (.pure x3)).trans (.write had)) w q1 q2⟩)
/-- {} -/
theorem de_dnewK (k : post (.ptr O.length) (O ++ [.dK []])) : DE X (.Dict [] [] pos) ρ O post := fun F A σ H s Q q =>
  wE_of pe_dnewK fun p hp => q _ F (A ++ [p]) _ _ _ k (.new hp) (s.new (c := .dK []) hp ⟨[], upd_same, .nil⟩) ⟨p, by rw [← s.len]; simp, rfl⟩
theorem de_dnewT (k : post (.ptr O.length) (O ++ [.dT []])) : DE X (.Dict [] [] pos) ρ O post := fun F A σ H s Q q =>
  wE_of pe_dnewT fun p hp => q _ F (A ++ [p]) _ _ _ k (.new hp) (s.new (c := .dT []) hp ⟨[], upd_same, .nil⟩) ⟨p, by rw [← s.len]; simp, rfl⟩
/-- [] -/
theorem de_nil (k : post (.ptr O.length) (O ++ [.lst []])) : DE X (.List [] pos) ρ O post := fun F A σ H s Q q =>
  wE_of (pe_lst pa_nil) ⟨Nat.zero_le _, fun p hp => q _ F (A ++ [p]) _ _ _ k (.new hp) (s.new (c := .lst []) hp ⟨[], upd_same, .nil⟩) ⟨p, by rw [← s.len]; simp, rfl⟩⟩
/-! tests, whose parts look at owned objects -/
theorem dte_w {post : Bool → Rs → Prop} (h : DWe X e ρ O post) : DTe X e ρ O post := fun F A σ H s Q q => wT_of (PW.pt pw_star) (h F A σ H s Q q)
theorem dwe_and1 {post : Bool → Rs → Prop} (h : DTe X a ρ O post) : DWe X (.BoolOp .And [a] pos) ρ O post := fun F A σ H s Q q => wW_of (pw_and1 pt_star) (h F A σ H s Q q)
theorem dwe_or1 {post : Bool → Rs → Prop} (h : DTe X a ρ O post) : DWe X (.BoolOp .Or [a] pos) ρ O post := fun F A σ H s Q q => wW_of (pw_or1 pt_star) (h F A σ H s Q q)
theorem dwe_and {more : List Expr} {post : Bool → Rs → Prop} (h : DTe X a ρ O fun p O1 => (p = false → post false O1) ∧ (p = true → DWe X (.BoolOp .And (b :: more) pos) ρ O1 post)) : DWe X (.BoolOp .And (a :: b :: more) pos) ρ O post := fun F A σ H s Q q =>
  wW_of (pw_and pt_star pw_star) (h F A σ H s _ fun F1 A1 H1 p O1 k x1 s1 => by
    cases p with
    | true => exact iteT (k.2 rfl F1 A1 σ H1 s1 Q fun F2 A2 H2 p2 O2 k2 x2 s2 => q F2 A2 H2 p2 O2 k2 (x1.trans x2) s2)
    | false => exact iteF (q F1 A1 H1 _ O1 (k.1 rfl) x1 s1))
theorem dwe_or {more : List Expr} {post : Bool → Rs → Prop} (h : DTe X a ρ O fun p O1 => (p = true → post true O1) ∧ (p = false → DWe X (.BoolOp .Or (b :: more) pos) ρ O1 post)) : DWe X (.BoolOp .Or (a :: b :: more) pos) ρ O post := fun F A σ H s Q q =>
  wW_of (pw_or pt_star pw_star) (h F A σ H s _ fun F1 A1 H1 p O1 k x1 s1 => by
    cases p with
    | true => exact iteT (q F1 A1 H1 _ O1 (k.1 rfl) x1 s1)
    | false => exact iteF (k.2 rfl F1 A1 σ H1 s1 Q fun F2 A2 H2 p2 O2 k2 x2 s2 => q F2 A2 H2 p2 O2 k2 (x1.trans x2) s2))
theorem dte_not {post : Bool → Rs → Prop} (h : DTe X a ρ O fun p O1 => post (!p) O1) : DTe X (.UnaryOp .Not a pos) ρ O post := fun F A σ H s Q q => wT_of (pt_not pt_star) (h F A σ H s _ fun F1 A1 H1 p O1 k x1 s1 => q F1 A1 H1 _ O1 k x1 s1)
theorem dte_cmp {op : CmpOp} {r : R2} {post : Bool → Rs → Prop} (ho : OpR X (compareOp op) r) (ha : DE X a ρ O fun x O1 => ∃ d1, x = .dat d1 ∧ DE X b ρ O1 fun y O2 => ∃ d2 p, y = .dat d2 ∧ RD X.K r d1 d2 (.bool p) ∧ post p O2) (hm : behindInMarks op b = false := by first | exact nomark _ | rfl) : DTe X (.Compare a [op] [b] pos) ρ O post := fun F A σ H s Q q =>
  wT_of (pt_cmpR ho pe_star pe_star hm) (ha F A σ H s _ fun x F1 A1 H1 sx O1 p1 x1 s1 r1 => by
    obtain ⟨d1, rfl, p1⟩ := p1
    refine p1 F1 A1 σ H1 s1 _ fun y F2 A2 H2 sy O2 p2 x2 s2 r2 => ?_
    obtain ⟨d2, p, rfl, hr, p2⟩ := p2
    exact hr x y F2 H2 s2.ex (Rep.mono x2.f r1) r2 _ fun v F3 H3 x3 r3 => by cases r3; exact ⟨p, rfl, q F3 A2 H3 p O2 p2 ((x1.trans x2).trans (.pure x3)) (s2.pure x3)⟩)
theorem dte_val {post : Bool → Rs → Prop} (h : DE X e ρ O fun sv O1 => ∃ p, sv = .dat (.bool p) ∧ post p O1) (he : ∀ whole, isTrue e X.env whole = (do let v ← whole; standAt e.pos; holding [v] (truthy v)) := by intro _; rfl) : DTe X e ρ O post := fun F A σ H s Q q =>
  wT_of (pt_val pe_star he) (h F A σ H s _ fun v F1 A1 H1 sv O1 p x1 s1 r => by obtain ⟨p, rfl, k⟩ := p; cases r; exact ⟨p, rfl, q F1 A1 H1 p O1 k x1 s1⟩)
end
/-! ### taking a list apart; `in` of one sign -/
section
variable {X : Cx} {δ : Dl} {pos : Pos} {d : PyData} {ds : List PyData} {a b e i : Expr} {es : List Expr} {ps qs : List (Nat × PyData)}
theorem dg_unl {k n : Nat} (hc : X.calm = true) (h : DGs X es ds ps) (hn : (assignEach es X.env).length = n := by rfl) (hst : (assignEach es X.env).findIdx? (·.1) = none := by rfl) (hl : ds.length = n := by rfl) : DG X (.Tuple es k pos) (.list ds) ps := fun F σ H v sm r Q q => by
  cases r with
  | lst h1 r1 => exact wG_of (pg_unl hc pgs_star hn hst) ⟨_, _, rfl, SqL.of (sm _ _ h1), by rw [r1.len]; exact hl, h F σ H _ sm r1 Q q⟩
theorem rd_inC {K : PySem.W.Frag} {c : Nat} {z : Str} : RD K (fun x y H Q => ∃ i j, x = V.str i ∧ y = V.str j ∧ Q (.bl (!(Builtin.Str.occurrences j i 0 j.length 1).isEmpty)) H) (.str ⟨#[c]⟩) (.str z) (.bool (decide (c ∈ z.cps.toList))) := fun x y F H sm rx ry Q q => by
  cases rx; cases ry
  refine ⟨_, _, rfl, rfl, ?_⟩
  have e : (!(Builtin.Str.occurrences z ⟨#[c]⟩ 0 z.length 1).isEmpty) = decide (c ∈ z.cps.toList) := StrLaws.found_one z c
  rw [e]
  exact q _ F H (.refl sm) (.bl _)
theorem dp_inC {c : Nat} {z : Str} (ha : DP X a δ (.str ⟨#[c]⟩)) (hb : DP X b δ (.str z)) (hm : behindInMarks .In b = false := by first | exact nomark _ | rfl) : DP X (.Compare a [.In] [b] pos) δ (.bool (decide (c ∈ z.cps.toList))) := dp_cmp op_in_str ha hb rd_inC hm
theorem dt_inC {c : Nat} {z : Str} (ha : DP X a δ (.str ⟨#[c]⟩)) (hb : DP X b δ (.str z)) (hm : behindInMarks .In b = false := by first | exact nomark _ | rfl) : DT X (.Compare a [.In] [b] pos) δ (decide (c ∈ z.cps.toList)) := dt_cmp op_in_str ha hb rd_inC hm
theorem dt_inT {ds : List PyData} (ha : DP X a δ d) (hb : DP X b δ (.tuple ds)) (hd : flatD d = true) (hs : ds.all flatD = true) (hm : behindInMarks .In b = false := by first | exact nomark _ | rfl) : DT X (.Compare a [.In] [b] pos) δ (ds.any fun y => eqF y d) := dt_cmp op_in_seq ha hb (rd_inT (neg := false) hd hs) hm
theorem dp_inT {ds : List PyData} (ha : DP X a δ d) (hb : DP X b δ (.tuple ds)) (hd : flatD d = true) (hs : ds.all flatD = true) (hm : behindInMarks .In b = false := by first | exact nomark _ | rfl) : DP X (.Compare a [.In] [b] pos) δ (.bool (ds.any fun y => eqF y d)) := dp_cmp op_in_seq ha hb (rd_inT (neg := false) hd hs) hm
theorem dt_notInT {ds : List PyData} (ha : DP X a δ d) (hb : DP X b δ (.tuple ds)) (hd : flatD d = true) (hs : ds.all flatD = true) (hm : behindInMarks .NotIn b = false := by first | exact nomark _ | rfl) : DT X (.Compare a [.NotIn] [b] pos) δ (!(ds.any fun y => eqF y d)) := dt_cmp op_notIn_seq ha hb (rd_inT (neg := true) hd hs) hm
theorem dt_inL {ds : List PyData} (ha : DP X a δ d) (hb : DP X b δ (.list ds)) (hd : flatD d = true) (hs : ds.all flatD = true) (hm : behindInMarks .In b = false := by first | exact nomark _ | rfl) : DT X (.Compare a [.In] [b] pos) δ (ds.any fun y => eqF y d) := dt_cmp op_in_seq ha hb (rd_in (neg := false) hd hs) hm
theorem dt_notInL {ds : List PyData} (ha : DP X a δ d) (hb : DP X b δ (.list ds)) (hd : flatD d = true) (hs : ds.all flatD = true) (hm : behindInMarks .NotIn b = false := by first | exact nomark _ | rfl) : DT X (.Compare a [.NotIn] [b] pos) δ (!(ds.any fun y => eqF y d)) := dt_cmp op_notIn_seq ha hb (rd_in (neg := true) hd hs) hm
end

/-! ### {k1: v1, k2: v2}[i] -/
section
variable {X : Cx} {δ : Dl} {pos pd : Pos} {k1 k2 v1 v2 i : Expr} {K1 K2 Kx : Key} {d1 d2 d : PyData}
theorem dp_disp2 (hu : X.A.units + 1 < cLine) (hk1 : DP X k1 δ (keyD K1)) (hv1 : DP X v1 δ d1) (hk2 : DP X k2 δ (keyD K2)) (hv2 : DP X v2 δ d2) (hi : DP X i δ (keyD Kx)) (hne : K1 ≠ K2) (hsel : (Kx = K1 ∧ d = d1) ∨ (Kx = K2 ∧ d = d2)) (hs : NoSl i := by exact fun _ _ => rfl) :
    DP X (.Subscript (.Dict [some k1, some k2] [v1, v2] pd) i pos) δ d := fun F σ H sm sl Q q =>
  wE_of (pe_dget hu (pe_disp (pps_cons pe_star pe_star (pps_cons pe_star pe_star pps_nil)) rfl rfl (by intro q; cases q) (show 2 ≤ 15 by decide)) pe_star hs) fun p hp => by
    have fp : F p = none := sm.free hp
    have sm0 : Same F (upd H p (.dK [])) := fun b o e => by rw [upd_ne (ne_of_none e fp)]; exact sm _ _ e
    refine hk1 F σ _ sm0 sl _ fun a1 F1 H1 x1 r1 => hv1 F1 σ H1 x1.s (sl.mono x1.f) _ fun b1 F2 H2 x2 r2 => hk2 F2 σ H2 x2.s (sl.mono (x1.trans x2).f) _ fun a2 F3 H3 x3 r3 => hv2 F3 σ H3 x3.s (sl.mono ((x1.trans x2).trans x3).f) _ fun b2 F4 H4 x4 r4 => ?_
    have x := ((x1.trans x2).trans x3).trans x4
    have f4 : F4 p = none := by
      cases e : F4 p with
      | none => rfl
      | some o => rcases x.n p o e with z | z
                  · rw [fp] at z; cases z
                  · rw [upd_same] at z; cases z
    have h4 : H4 p = some (.dK []) := x.h _ _ upd_same
    refine ⟨h4, [(K1, b1), (K2, b2)], by rw [rep_key r1, rep_key r3]; rfl, (show 2 ≤ 15 by decide), ?_⟩
    have e1 : mergeK [] [(K1, b1), (K2, b2)] = [(K1, b1), (K2, b2)] := by
      show putK (putK [] K1 b1) K2 b2 = _
      simp [putK, hne]
    rw [e1]
    have xt : Xt F H F4 (upd H4 p (.dK [(K1, b1), (K2, b2)])) := by
      refine ⟨x.f, fun b o e => ?_, fun b o e => ?_, fun b o e => ?_⟩
      · rw [upd_ne (ne_of_none e hp)]; exact x.h _ _ (by rw [upd_ne (ne_of_none e hp)]; exact e)
      · rw [upd_ne (ne_of_none e f4)]; exact x.s _ _ e
      · rcases x.n b o e with z | z
        · exact .inl z
        · right
          by_cases hb : b = p
          · rw [hb, upd_same] at z; cases z
          · rw [upd_ne hb] at z; exact z
    refine hi F4 σ _ xt.s (sl.mono xt.f) _ fun y F5 H5 x5 r5 => ?_
    have h5 : H5 p = some (.dK [(K1, b1), (K2, b2)]) := x5.h _ _ upd_same
    have ry := rep_key r5
    rcases hsel with ⟨hx, hd⟩ | ⟨hx, hd⟩
    · refine ⟨p, b1, rfl, ?_, q b1 F5 H5 (xt.trans x5) (by rw [hd]; exact r2.mono ((x3.trans x4).f.trans x5.f))⟩
      have g := DGet.k (k := Kx) h5
      rw [ry]
      rwa [show valV [(K1, b1), (K2, b2)] Kx = some b1 by rw [hx]; simp [valV]] at g
    · refine ⟨p, b2, rfl, ?_, q b2 F5 H5 (xt.trans x5) (by rw [hd]; exact r4.mono x5.f)⟩
      have g := DGet.k (k := Kx) h5
      rw [ry]
      rwa [show valV [(K1, b1), (K2, b2)] Kx = some b2 by rw [hx]; simp [valV, hne]] at g
end
end SS
set_option maxHeartbeats 4000000
/-! The data layer, eleven: shorter words. -/
namespace SS
open PySem PySem.Spec PyProof.Rows L2
def blkC (N : List Str) (sc scope : Scope) (own : List (Str × Nat)) : Bool :=
  (match scope.kind with | .function => true | _ => false) && scope.names.all (fun y => decide (scope.names.lookup y.1 = some y.2)) && own.all (fun p => decide (N[p.2]? = some p.1)) &&
  scope.names.all (fun y => !decide (y.2 = .free) || decide (sc.names.lookup y.1 = some .cell) || decide (sc.names.lookup y.1 = some .free)) &&
  scope.names.all (fun y => !(decide (y.2 = .local) || decide (y.2 = .cell)) || decide (y.1 ∈ own.map (·.1)) || decide (y.1 ∉ N))
theorem blk_ok {N : List Str} {sc scope : Scope} {own : List (Str × Nat)} (h : blkC N sc scope own = true) : BlkOk N sc scope own := by
  unfold blkC at h
  simp only [Bool.and_eq_true, List.all_eq_true, Bool.or_eq_true, Bool.not_eq_true', decide_eq_true_eq, decide_eq_false_iff_not] at h
  obtain ⟨⟨⟨⟨h1, h2⟩, h3⟩, h4⟩, h5⟩ := h
  refine ⟨?_, fun y hy => h2 y hy, fun p hp => h3 p hp, fun y hy e => ?_, fun y hy e => ?_⟩
  · split at h1
    · assumption
    · cases h1
  · rcases h4 y hy with (q | q) | q
    · exact absurd e q
    · exact .inl q
    · exact .inr q
  · rcases h5 y hy with (q | q) | q
    · rw [Bool.or_eq_false_iff, decide_eq_false_iff_not, decide_eq_false_iff_not] at q
      rcases e with e | e
      · exact absurd e q.1
      · exact absurd e q.2
    · exact .inl q
    · exact .inr q
def ndC (N : List Str) : Bool := decide N.Nodup
theorem nd_ok {N : List Str} (h : ndC N = true) : N.Nodup := of_decide_eq_true h
section
variable {X : Cx} {δ : Dl} {elt tg iter e : Expr} {ifs : List Expr} {scope : Scope} {pos pos' : Pos} {α : Type} {d : PyData} {r : List PyData} {rest : List Stmt} {ρ : List SV} {O : Rs} {nx : Nx} {rt post : Post} {te : TE} {st : Stmt} {ds : List PyData}
/-- [elt for tg in iter] -/
theorem lc (own : List (Str × Nat)) (as : List α) (enc f : α → PyData) (ps : α → List (Nat × PyData)) (hi : DI X tg iter δ (as.map enc)) (hg : ∀ a ∈ as, Blk X scope fun Y => DG Y tg (enc a) (ps a))
    {δ' : α → Dl} (he : ∀ a ∈ as, Blk X scope fun Y => DP Y elt (δ' a) (f a)) (hr : as.map f = r := by rfl) (hz : as.length ≤ 1000000 := by first | decide | simp | omega) (ok : blkC X.N X.env.scope scope own = true := by kernel_rfl) (hN : ndC X.N = true := by kernel_rfl) (hc : X.calm = true := by rfl)
    (hp : ∀ a, ((ps a).map (·.1)).all (fun i => (own.map (·.2)).contains i) = true := by intro _; rfl) (hδ : ∀ a, setD (ps a) (wipeD δ (own.map (·.2))) = δ' a := by intro _; (simp only [setS, setD, wipeD, wipeS, view, vw, List.map_cons, List.map_nil, List.set_cons_zero, List.set_cons_succ, List.cons_append, List.nil_append]; try rfl)) (hs : ∀ x, foldedSetIterable iter X.env x = pure x := by intro _; rfl) : DF X (.ListComp elt [⟨tg, iter, [], 0⟩] scope pos) δ r :=
  df_lc hc (nd_ok hN) hi (blk_ok ok) hg (fun a _ q hq => by
    have := List.all_eq_true.mp (hp a) q.1 (List.mem_map_of_mem hq)
    simpa using this) (fun a h => by rw [hδ a]; exact he a h) hz hr hs
/-- [elt for tg in iter if c] -/
theorem lcf (own : List (Str × Nat)) (as : List α) (enc f : α → PyData) (p : α → Bool) (ps : α → List (Nat × PyData)) {c : Expr} (hi : DI X tg iter δ (as.map enc)) (hg : ∀ a ∈ as, Blk X scope fun Y => DG Y tg (enc a) (ps a))
    {δ' : α → Dl} (ht : ∀ a ∈ as, Blk X scope fun Y => DT Y c (δ' a) (p a)) (he : ∀ a ∈ as, p a = true → Blk X scope fun Y => DP Y elt (δ' a) (f a)) (hr : (as.filter p).map f = r := by rfl) (hz : as.length ≤ 1000000 := by first | decide | simp | omega) (ok : blkC X.N X.env.scope scope own = true := by kernel_rfl) (hN : ndC X.N = true := by kernel_rfl) (hc : X.calm = true := by rfl)
    (hp : ∀ a, ((ps a).map (·.1)).all (fun i => (own.map (·.2)).contains i) = true := by intro _; rfl) (hδ : ∀ a, setD (ps a) (wipeD δ (own.map (·.2))) = δ' a := by intro _; (simp only [setS, setD, wipeD, wipeS, view, vw, List.map_cons, List.map_nil, List.set_cons_zero, List.set_cons_succ, List.cons_append, List.nil_append]; try rfl)) (hs : ∀ x, foldedSetIterable iter X.env x = pure x := by intro _; rfl) : DF X (.ListComp elt [⟨tg, iter, [c], 0⟩] scope pos) δ r :=
  df_lcf hc (nd_ok hN) hi (blk_ok ok) hg (fun a _ q hq => by
    have := List.all_eq_true.mp (hp a) q.1 (List.mem_map_of_mem hq)
    simpa using this) (fun a h s H C cl fp => by rw [hδ a]; exact dts_one (ht a h s H C cl fp)) (fun a h q => by rw [hδ a]; exact he a h q) hz hr hs
/-- [elt for tg in iter] -/
theorem lcp (own : List (Str × Nat)) (as : List α) (enc f : α → PyData) (ps : α → List (Nat × PyData)) (hi : DI X tg iter δ (as.map enc)) (hg : ∀ a ∈ as, Blk X scope fun Y => DG Y tg (enc a) (ps a))
    {δ' : α → Dl} (he : ∀ a ∈ as, Blk X scope fun Y => DP Y elt (δ' a) (f a)) (hr : as.map f = r := by rfl) (hz : as.length ≤ 1000000 := by first | decide | simp | omega) (ok : blkC X.N X.env.scope scope own = true := by kernel_rfl) (hN : ndC X.N = true := by kernel_rfl) (hc : X.calm = true := by rfl)
    (hp : ∀ a, ((ps a).map (·.1)).all (fun i => (own.map (·.2)).contains i) = true := by intro _; rfl) (hδ : ∀ a, setD (ps a) (wipeD δ (own.map (·.2))) = δ' a := by intro _; (simp only [setS, setD, wipeD, wipeS, view, vw, List.map_cons, List.map_nil, List.set_cons_zero, List.set_cons_succ, List.cons_append, List.nil_append]; try rfl)) (hs : ∀ x, foldedSetIterable iter X.env x = pure x := by intro _; rfl) : DP X (.ListComp elt [⟨tg, iter, [], 0⟩] scope pos) δ (.list r) :=
  (lc own as enc f ps hi hg he hr hz ok hN hc hp hδ hs).dp
/-- [elt for tg in iter if c] -/
theorem lcfp (own : List (Str × Nat)) (as : List α) (enc f : α → PyData) (p : α → Bool) (ps : α → List (Nat × PyData)) {c : Expr} (hi : DI X tg iter δ (as.map enc)) (hg : ∀ a ∈ as, Blk X scope fun Y => DG Y tg (enc a) (ps a))
    {δ' : α → Dl} (ht : ∀ a ∈ as, Blk X scope fun Y => DT Y c (δ' a) (p a)) (he : ∀ a ∈ as, p a = true → Blk X scope fun Y => DP Y elt (δ' a) (f a)) (hr : (as.filter p).map f = r := by rfl) (hz : as.length ≤ 1000000 := by first | decide | simp | omega) (ok : blkC X.N X.env.scope scope own = true := by kernel_rfl) (hN : ndC X.N = true := by kernel_rfl) (hc : X.calm = true := by rfl)
    (hp : ∀ a, ((ps a).map (·.1)).all (fun i => (own.map (·.2)).contains i) = true := by intro _; rfl) (hδ : ∀ a, setD (ps a) (wipeD δ (own.map (·.2))) = δ' a := by intro _; (simp only [setS, setD, wipeD, wipeS, view, vw, List.map_cons, List.map_nil, List.set_cons_zero, List.set_cons_succ, List.cons_append, List.nil_append]; try rfl)) (hs : ∀ x, foldedSetIterable iter X.env x = pure x := by intro _; rfl) : DP X (.ListComp elt [⟨tg, iter, [c], 0⟩] scope pos) δ (.list r) :=
  (lcf own as enc f p ps hi hg ht he hr hz ok hN hc hp hδ hs).dp
/-- y = [elt for tg in iter], only read from here on -/
theorem setL (j : Nat) (own : List (Str × Nat)) (as : List α) (enc f : α → PyData) (ps : α → List (Nat × PyData)) {y : Str} {py spos : Pos} (hi : DI X tg iter (view ρ) (as.map enc)) (hg : ∀ a ∈ as, Blk X scope fun Y => DG Y tg (enc a) (ps a))
    {δ' : α → Dl} (he : ∀ a ∈ as, Blk X scope fun Y => DP Y elt (δ' a) (f a)) {ρ' : List SV} (k : DS X rest ρ' O nx rt) (hz : as.length ≤ 1000000 := by first | decide | simp | omega) (ok : blkC X.N X.env.scope scope own = true := by kernel_rfl) (hN : ndC X.N = true := by kernel_rfl) (hc : X.calm = true := by rfl)
    (hy : X.N[j]? = some y := by rfl) (hyl : X.env.scope.names.lookup y = some .local := by rfl) (hsw : swapsWith (.ListComp elt [⟨tg, iter, [], 0⟩] scope pos) (some (.Name y py)) spos.line X.env = pure true := by rfl)
    (hp : ∀ a, ((ps a).map (·.1)).all (fun i => (own.map (·.2)).contains i) = true := by intro _; rfl) (hδ : ∀ a, setD (ps a) (wipeD (view ρ) (own.map (·.2))) = δ' a := by intro _; (simp only [setS, setD, wipeD, wipeS, view, vw, List.map_cons, List.map_nil, List.set_cons_zero, List.set_cons_succ, List.cons_append, List.nil_append]; try rfl)) (hρ : ρ.set j (.dat (.list (as.map f))) = ρ' := by (simp only [setS, setD, wipeD, wipeS, view, vw, List.map_cons, List.map_nil, List.set_cons_zero, List.set_cons_succ, List.cons_append, List.nil_append]; try rfl)) (hs : ∀ x, foldedSetIterable iter X.env x = pure x := by intro _; rfl) : DS X (.Assign [.Name y py] (.ListComp elt [⟨tg, iter, [], 0⟩] scope pos) spos :: rest) ρ O nx rt :=
  ds_setF j (ps_setLc hc (nd_ok hN) hy hyl hsw pi_star (blk_ok ok) pg_blk pts_blk pe_blk hs) (lc_data (p := fun _ => true) hi hg (fun a _ q hq => by
    have := List.all_eq_true.mp (hp a) q.1 (List.mem_map_of_mem hq)
    simpa using this) (fun _ _ _ _ _ _ _ => dts_nil) (fun a h _ => by rw [hδ a]; exact he a h) hz) (by
    rw [List.filter_eq_self.mpr fun _ _ => rfl, hρ]; exact k)
theorem setLO (j : Nat) (own : List (Str × Nat)) (as : List α) (enc f : α → PyData) (ps : α → List (Nat × PyData)) {y : Str} {py spos : Pos} (hi : DI X tg iter (view ρ) (as.map enc)) (hg : ∀ a ∈ as, Blk X scope fun Y => DG Y tg (enc a) (ps a))
    {δ' : α → Dl} (he : ∀ a ∈ as, Blk X scope fun Y => DP Y elt (δ' a) (f a)) {ρ' : List SV} (k : DS X rest ρ' (O ++ [.lst ((as.map f).map .dat)]) nx rt) (hz : as.length ≤ 1000000 := by first | decide | simp | omega) (ok : blkC X.N X.env.scope scope own = true := by kernel_rfl) (hN : ndC X.N = true := by kernel_rfl) (hc : X.calm = true := by rfl)
    (hy : X.N[j]? = some y := by rfl) (hyl : X.env.scope.names.lookup y = some .local := by rfl) (hsw : swapsWith (.ListComp elt [⟨tg, iter, [], 0⟩] scope pos) (some (.Name y py)) spos.line X.env = pure true := by rfl)
    (hp : ∀ a, ((ps a).map (·.1)).all (fun i => (own.map (·.2)).contains i) = true := by intro _; rfl) (hδ : ∀ a, setD (ps a) (wipeD (view ρ) (own.map (·.2))) = δ' a := by intro _; (simp only [setS, setD, wipeD, wipeS, view, vw, List.map_cons, List.map_nil, List.set_cons_zero, List.set_cons_succ, List.cons_append, List.nil_append]; try rfl)) (hρ : ρ.set j (.ptr O.length) = ρ' := by (simp only [setS, setD, wipeD, wipeS, view, vw, List.map_cons, List.map_nil, List.set_cons_zero, List.set_cons_succ, List.cons_append, List.nil_append]; try rfl)) (hs : ∀ x, foldedSetIterable iter X.env x = pure x := by intro _; rfl) : DS X (.Assign [.Name y py] (.ListComp elt [⟨tg, iter, [], 0⟩] scope pos) spos :: rest) ρ O nx rt :=
  ds_setO j (ps_setLc hc (nd_ok hN) hy hyl hsw pi_star (blk_ok ok) pg_blk pts_blk pe_blk hs) (lc_data (p := fun _ => true) hi hg (fun a _ q hq => by
    have := List.all_eq_true.mp (hp a) q.1 (List.mem_map_of_mem hq)
    simpa using this) (fun _ _ _ _ _ _ _ => dts_nil) (fun a h _ => by rw [hδ a]; exact he a h) hz) (by
    rw [List.filter_eq_self.mpr fun _ _ => rfl, hρ]; exact k)
/-- y = [elt for tg in iter if c] -/
theorem setLf (j : Nat) (own : List (Str × Nat)) (as : List α) (enc f : α → PyData) (p : α → Bool) (ps : α → List (Nat × PyData)) {c : Expr} {y : Str} {py spos : Pos} (hi : DI X tg iter (view ρ) (as.map enc)) (hg : ∀ a ∈ as, Blk X scope fun Y => DG Y tg (enc a) (ps a))
    {δ' : α → Dl} (ht : ∀ a ∈ as, Blk X scope fun Y => DT Y c (δ' a) (p a)) (he : ∀ a ∈ as, p a = true → Blk X scope fun Y => DP Y elt (δ' a) (f a)) {ρ' : List SV} (k : DS X rest ρ' O nx rt) (hz : as.length ≤ 1000000 := by first | decide | simp | omega) (ok : blkC X.N X.env.scope scope own = true := by kernel_rfl) (hN : ndC X.N = true := by kernel_rfl) (hc : X.calm = true := by rfl)
    (hy : X.N[j]? = some y := by rfl) (hyl : X.env.scope.names.lookup y = some .local := by rfl) (hsw : swapsWith (.ListComp elt [⟨tg, iter, [c], 0⟩] scope pos) (some (.Name y py)) spos.line X.env = pure true := by rfl)
    (hp : ∀ a, ((ps a).map (·.1)).all (fun i => (own.map (·.2)).contains i) = true := by intro _; rfl) (hδ : ∀ a, setD (ps a) (wipeD (view ρ) (own.map (·.2))) = δ' a := by intro _; (simp only [setS, setD, wipeD, wipeS, view, vw, List.map_cons, List.map_nil, List.set_cons_zero, List.set_cons_succ, List.cons_append, List.nil_append]; try rfl)) (hρ : ρ.set j (.dat (.list ((as.filter p).map f))) = ρ' := by (simp only [setS, setD, wipeD, wipeS, view, vw, List.map_cons, List.map_nil, List.set_cons_zero, List.set_cons_succ, List.cons_append, List.nil_append]; try rfl)) (hs : ∀ x, foldedSetIterable iter X.env x = pure x := by intro _; rfl) : DS X (.Assign [.Name y py] (.ListComp elt [⟨tg, iter, [c], 0⟩] scope pos) spos :: rest) ρ O nx rt :=
  ds_setF j (ps_setLc hc (nd_ok hN) hy hyl hsw pi_star (blk_ok ok) pg_blk pts_blk pe_blk hs) (lc_data hi hg (fun a _ q hq => by
    have := List.all_eq_true.mp (hp a) q.1 (List.mem_map_of_mem hq)
    simpa using this) (fun a h s H C cl fp => by rw [hδ a]; exact dts_one (ht a h s H C cl fp)) (fun a h q => by rw [hδ a]; exact he a h q) hz) (by rw [hρ]; exact k)
/-- y = [elt for tg in iter], the elements change objects -/
theorem setLE (j : Nat) (own : List (Str × Nat)) {y : Str} {py spos : Pos} 
    (hi : DIe X tg iter ρ O fun xs O1 => xs.length ≤ 1000000 ∧ ∃ I : Nat → Rs → Prop, I 0 (O1 ++ [.lst []]) ∧
      (∀ i x O', xs[i]? = some x → I i O' → ∃ ps, (∀ q ∈ ps, q.1 ∈ own.map (·.2)) ∧ (Blk X scope fun Y => DG Y tg x ps) ∧ Blk X scope fun Y => DE Y elt (setS ps (wipeS ρ (own.map (·.2)))) O' fun sv O2 => ∃ acc, O2[O1.length]? = some (.lst acc) ∧ acc.length < 1000000 ∧ I (i + 1) (O2.set O1.length (.lst (acc ++ [sv])))) ∧
      ∀ O', I xs.length O' → DS X rest (ρ.set j (.ptr O1.length)) O' nx rt)
    (ok : blkC X.N X.env.scope scope own = true := by kernel_rfl) (hN : ndC X.N = true := by kernel_rfl) (hc : X.calm = true := by rfl)
    (hy : X.N[j]? = some y := by rfl) (hyl : X.env.scope.names.lookup y = some .local := by rfl) (hsw : swapsWith (.ListComp elt [⟨tg, iter, [], 0⟩] scope pos) (some (.Name y py)) spos.line X.env = pure true := by rfl)
    (hs : ∀ x, foldedSetIterable iter X.env x = pure x := by intro _; rfl) : DS X (.Assign [.Name y py] (.ListComp elt [⟨tg, iter, [], 0⟩] scope pos) spos :: rest) ρ O nx rt := fun F A σ H s D q1 q2 =>
  wSs_of (pss_cons (ps_setLc hc (nd_ok hN) hy hyl hsw pi_star (blk_ok ok) pg_blk pts_blk pe_blk hs) pss_star) (lcE_core (post := fun sv O' => DS X rest (ρ.set j sv) O' nx rt) hi F A σ H s _ fun v F1 A1 H1 sv O1 p x1 s1 r => p.go x1 (s1.set r) q1 q2)
theorem dgn (i : Nat) {x : Str} (hN : ndC X.N = true := by kernel_rfl) (hi : X.N[i]? = some x := by rfl) (hx : Loc X.env.scope x := by first | exact Or.inl rfl | exact Or.inr rfl) (hf : X.fn x = true ∨ X.env.scope.names.lookup x = some .local := by first | exact .inl rfl | exact .inr rfl | assumption) : DG X (.Name x pos) d [(i, d)] := dg_name i (nd_ok hN) hi hx hf
/-- x = e, data -/
theorem set1 (j : Nat) {x : Str} {ρ' : List SV} (he : DP X e (view ρ) d) (k : DS X rest ρ' O nx rt) (hN : ndC X.N = true := by kernel_rfl) (hi : X.N[j]? = some x := by rfl) (hx : Loc X.env.scope x := by first | exact Or.inl rfl | exact Or.inr rfl) (hs : swapsWith e (some (.Name x pos')) pos.line X.env = pure false := by rfl)
    (hf : X.fn x = true ∨ X.env.scope.names.lookup x = some .local := by first | exact .inl rfl | exact .inr rfl) (hρ : ρ.set j (.dat d) = ρ' := by (simp only [setS, setD, wipeD, wipeS, view, vw, List.map_cons, List.map_nil, List.set_cons_zero, List.set_cons_succ, List.cons_append, List.nil_append]; try rfl)) : DS X (.Assign [.Name x pos'] e pos :: rest) ρ O nx rt := ds_set j (nd_ok hN) (de_pure he (by rw [hρ]; exact k)) hi hx hs hf
theorem setE (j : Nat) {x : Str} {ρ' : SV → List SV} (he : DE X e ρ O fun sv O' => DS X rest (ρ' sv) O' nx rt) (hN : ndC X.N = true := by kernel_rfl) (hi : X.N[j]? = some x := by rfl) (hx : Loc X.env.scope x := by first | exact Or.inl rfl | exact Or.inr rfl) (hs : swapsWith e (some (.Name x pos')) pos.line X.env = pure false := by rfl)
    (hf : X.fn x = true ∨ X.env.scope.names.lookup x = some .local := by first | exact .inl rfl | exact .inr rfl) (hρ : ∀ sv, ρ.set j sv = ρ' sv := by intro _; (simp only [setS, setD, wipeD, wipeS, view, vw, List.map_cons, List.map_nil, List.set_cons_zero, List.set_cons_succ, List.cons_append, List.nil_append]; try rfl)) : DS X (.Assign [.Name x pos'] e pos :: rest) ρ O nx rt := ds_set j (nd_ok hN) (he.mono fun sv O' k => by rw [hρ sv]; exact k) hi hx hs hf
theorem ret1 (he : DP X e (view ρ) d) (k : rt (.dat d) O) : DS X (.Return (some e) pos :: rest) ρ O nx rt := ds_ret (de_pure he k)
/-- an if whose test is pure -/
theorem if1 {b : Bool} {body : List Stmt} (hc : DT X e (view ρ) b) (h1 : b = true → DS X body ρ O (fun _ _ => False) rt) (h2 : b = false → DS X rest ρ O nx rt) : DS X (.If e body [] pos :: rest) ρ O nx rt := ds_ifR (dte_pure hc ⟨h1, h2⟩)
end

section
variable {X : Cx} {e tg : Expr} {rest : List Stmt} {ρ : List SV} {O : Rs} {nx : Nx} {rt : Post} {d : PyData} {ps : List (Nat × PyData)} {pos : Pos}
/-- the state spelt out -/
theorem nrm {st : List Stmt} {ρ' : List SV} (k : DS X st ρ' O nx rt) (h : ρ = ρ' := by (simp only [setS, setD, wipeD, wipeS, view, vw, List.map_cons, List.map_nil, List.set_cons_zero, List.set_cons_succ, List.cons_append, List.nil_append]; try rfl)) : DS X st ρ O nx rt := h ▸ k
/-- a, b, .. = e, data -/
theorem tup1 {ρ' : List SV} (he : DP X e (view ρ) d) (hg : DG X tg d ps) (k : DS X rest ρ' O nx rt) (hρ : setS ps ρ = ρ' := by (simp only [setS, setD, wipeD, wipeS, view, vw, List.map_cons, List.map_nil, List.set_cons_zero, List.set_cons_succ, List.cons_append, List.nil_append]; try rfl))
    (hs : swapsWithSole [tg] e pos.line X.env = pure false := by rfl) (hw : swappedStores [tg] e X.env = pure none := by rfl) (h1 : (assignEach [tg] X.env).map (·.2) = [assign tg X.env] := by rfl) : DS X (.Assign [tg] e pos :: rest) ρ O nx rt := ds_tup (ps := ps) (de_pure he ⟨d, ps, rfl, hg, by rw [hρ]; exact k⟩) hs hw h1
theorem tupE (he : DE X e ρ O fun sv O' => ∃ d ps, sv = .dat d ∧ DG X tg d ps ∧ DS X rest (setS ps ρ) O' nx rt)
    (hs : swapsWithSole [tg] e pos.line X.env = pure false := by rfl) (hw : swappedStores [tg] e X.env = pure none := by rfl) (h1 : (assignEach [tg] X.env).map (·.2) = [assign tg X.env] := by rfl) : DS X (.Assign [tg] e pos :: rest) ρ O nx rt := ds_tup (ps := []) he hs hw h1
end
section
variable {P : Program} {w : World} {K : PySem.W.Frag} {mg : Str → Option Value} {base : Heap} {x name qual : Str} {st : Stmt} {N ps : List Str} {k : Nat} {f : Addr} {fd : FuncData}
/-- the same, nothing being forgotten -/
theorem fn_S0 {S : List SV → Rs → Post → Prop} (Fn : Fun K x qual st f fd) (Sc : FnScope N ps (defScope st)) (hl : ∀ svs O post, S svs O post → svs.length = ps.length) (hN : ps.length ≤ N.length)
    (body : ∀ (cdv : Value) (A : Around) (outer : List Env) (s : Shared) (H : Hp) (E : XK), Room k (A.deeper (envOfC qual (defScope st) s.heap.objs.size f cdv)) → ∀ svs O post, S svs O post →
      DS (bX P w K mg base N qual st f cdv A outer s H E) (defBody st) (startS N.length svs) O (fun _ O' => post (.dat .none) O') post) : FnOk P w K mg base CX0 (k + 1) f fd ps (spS K S) := by
  refine Fn.ok Sc (fun vs H Q E h => ?_) (fun cdv A outer s H vs Q E hr h => ⟨_, pss_star, ?_⟩)
  · obtain ⟨F, A, svs, O, post, hS, _, r, _⟩ := h
    rw [← show svs.length = vs.length from r.length]; exact hl svs O post hS
  · obtain ⟨F, A0, svs, O, post, hS, s0, r, q⟩ := h
    have hd := hl svs O post hS
    have s1 : SR K (startS N.length svs) O F A0 (L2.start N vs) H := s0.start r (by omega)
    exact body cdv A outer s H E hr svs O post hS F A0 _ H s1 _ (fun ρ' O' F' A' σ' H' e x' s' => q .non F' A' H' (.dat .none) O' e x' s'.no .non) (fun sv O' v F' A' H' e x' s' rv => q v F' A' H' sv O' e x' s' rv)
theorem cal_S0 {Sp : List SV → Rs → Post → Prop} (D : Df K mg x name st ps) (S : FnScope N ps (defScope st)) (hl : ∀ svs O post, Sp svs O post → svs.length = ps.length) (hN : ps.length ≤ N.length)
    (body : ∀ (f : Addr) (cdv : Value) (A : Around) (outer : List Env) (s : Shared) (H : Hp) (E : XK), Room k (bX P w K mg base N name st f cdv A outer s H E).A → ∀ svs O post, Sp svs O post →
      DS (bX P w K mg base N name st f cdv A outer s H E) (defBody st) (startS N.length svs) O (fun _ O' => post (.dat .none) O') post) : Cal P w K mg base x (k + 1) ps (spS K Sp) :=
  let ⟨f, fd, F, hm, hb⟩ := D.ex
  ⟨f, fd, fn_S0 F S hl hN fun cdv A outer s H E hr ds d h => body f cdv A outer s H E hr ds d h, hm, F.kp, hb⟩
theorem mcal_S0 {C : Addr} {m : Str} {Sp : List SV → Rs → Post → Prop} (D : Mf K C m qual st ps) (cl : Cls K C) (S : FnScope N ps (defScope st)) (hl : ∀ svs O post, Sp svs O post → svs.length = ps.length) (hN : ps.length ≤ N.length)
    (body : ∀ (f : Addr) (cdv : Value) (A : Around) (outer : List Env) (s : Shared) (H : Hp) (E : XK), Room k (bX P w K mg base N qual st f cdv A outer s H E).A → ∀ svs O post, Sp svs O post →
      DS (bX P w K mg base N qual st f cdv A outer s H E) (defBody st) (startS N.length svs) O (fun _ O' => post (.dat .none) O') post) : MCal P w K mg base C m (k + 1) ps (spS K Sp) :=
  let ⟨f, fd, F, hm, hb⟩ := D.ex
  ⟨⟨f, fd, fn_S0 F S hl hN fun cdv A outer s H E hr ds d h => body f cdv A outer s H E hr ds d h, hm, hb⟩, cl⟩
end
end SS
set_option maxHeartbeats 4000000
/-! What the head's tests tell. -/
namespace SS.HD
open PySem PySem.Spec PyProof.Rows L2
open SX (S)
theorem ndB_ok {K : PySem.W.Frag} (h : ndB K = true) : ND K := by
  intro hp hK
  unfold ndB at h
  split at h
  · rename_i c d es n sl q
    obtain ⟨h1, h2⟩ := He.ba h
    refine ⟨_, ⟨_, es, n, hK _ _ q, rfl, fun e he => ?_, fun _ => rfl⟩, ?_⟩
    · have := List.all_eq_true.mp h1 e (by simpa using he)
      unfold strKeyB at this
      split at this
      · exact ⟨_, _, by assumption⟩
      · cases this
    · show nsFind es _ = none
      unfold nsFind findBy
      rw [← Array.find?_toList, Option.isNone_iff_eq_none.mp h2]; rfl
  · cases h
theorem tupAt_ok {K : PySem.W.Frag} {a : Addr} {vs : List V} (h : tupAt K a vs = true) (H : Hp) : SqT K H a vs := by
  unfold tupAt at h
  split at h
  · rename_i c d its n sl q
    obtain ⟨h1, h2⟩ := He.ba h
    obtain ⟨h3, h4⟩ := He.ba h2
    exact .inr ⟨_, its, n, q, congrArg Value.type (of_decide_eq_true h1), rfl, of_decide_eq_true h3, He.relAll_ok h4⟩
  · cases h
theorem rowAt_ok {K : PySem.W.Frag} {x z : Str} {vs : List V} {ds : List PyData} (h : rowAt K x z vs = true) (r : ∀ F, Reps K F vs ds) : ∃ u0 v0, PySem.W.nsIn K (He.ga K x) z = some (some u0) ∧ RelV v0 u0 ∧ ∀ F, Rep K F v0 (.tuple ds) := by
  unfold rowAt at h
  split at h
  · rename_i a q
    exact ⟨.ref a, .ref a, q, rfl, fun F => .tup (tupAt_ok h F) (r F)⟩
  · cases h
end SS.HD
/-! The mathematics, one: webs, rows, values; what makes a web; how great its numbers are; rows against values. -/
namespace SS
open PySem
structure Deed where
  less : Bool
  a : Nat
  s : Int
  b : Nat
  t : Int
deriving DecidableEq
structure Out where
  thing : Nat
  shift : Int
  sign : Int
deriving DecidableEq
structure Web where
  ins : Nat
  deeds : List Deed
  outs : List Out
deriving DecidableEq
abbrev Row := List Int
def shI (n s : Int) : Int := if 0 ≤ s then n * 2 ^ s.toNat else n / 2 ^ (-s).toNat
def okS (n s : Int) : Prop := 0 ≤ s ∨ n % 2 ^ (-s).toNat = 0
def shR (r : Row) (s : Int) : Row := r.map (shI · s)
def okR (r : Row) (s : Int) : Prop := ∀ x ∈ r, okS x s
def sg (less : Bool) (x y : Int) : Int := if less then x - y else x + y
def unitRow (n i : Nat) : Row := (List.range n).map fun k => if k = i then 1 else 0
def unitRows (n : Nat) : List Row := (List.range n).map (unitRow n)
def grow {α : Type} (f : List α → Deed → α) : List α → List Deed → List α
  | R, [] => R
  | R, d :: ds => grow f (R ++ [f R d]) ds
def stepR (R : List Row) (d : Deed) : Row := List.zipWith (sg d.less) (shR (R.getD d.a []) d.s) (shR (R.getD d.b []) d.t)
def rows (ins : Nat) (ds : List Deed) : List Row := grow stepR (unitRows ins) ds
def Web.rows (w : Web) : List Row := SS.rows w.ins w.deeds
def okD (R : List Row) (d : Deed) : Prop := d.a < R.length ∧ d.b < R.length ∧ (-4000 ≤ d.s ∧ d.s ≤ 4000) ∧ (-4000 ≤ d.t ∧ d.t ≤ 4000) ∧ okR (R.getD d.a []) d.s ∧ okR (R.getD d.b []) d.t
def okDs : List Row → List Deed → Prop
  | _, [] => True
  | R, d :: ds => okD R d ∧ okDs (R ++ [stepR R d]) ds
def outRow (R : List Row) (o : Out) : Row := (shR (R.getD o.thing []) o.shift).map (o.sign * ·)
def noOut : Out := ⟨0, 0, 0⟩
def okO (R : List Row) (o : Out) : Prop := o = noOut ∨ (o.thing < R.length ∧ (-4000 ≤ o.shift ∧ o.shift ≤ 4000) ∧ okR (R.getD o.thing []) o.shift ∧ (o.sign = 1 ∨ o.sign = -1))
structure Web.ok (w : Web) : Prop where
  i1 : 1 ≤ w.ins
  i2 : w.ins ≤ 12
  dl : w.deeds.length ≤ 60
  ol : w.outs.length ≤ 12
  ds : okDs (unitRows w.ins) w.deeds
  os : ∀ o ∈ w.outs, okO w.rows o
def Web.outRows (w : Web) : List Row := w.outs.map (outRow w.rows)
/-! ### values -/
def stepV (V : List Int) (d : Deed) : Int := sg d.less (shI (V.getD d.a 0) d.s) (shI (V.getD d.b 0) d.t)
def outV (V : List Int) (o : Out) : Int := o.sign * shI (V.getD o.thing 0) o.shift
def Web.vals (w : Web) (v : List Int) : List Int := grow stepV v w.deeds
def Web.outVals (w : Web) (v : List Int) : List Int := w.outs.map (outV (w.vals v))
def dot (r v : List Int) : Int := (List.zipWith (· * ·) r v).sum

/-! ### data -/
def wordOf (less : Bool) : Str := if less then "less" else "sum"
def encD (d : Deed) : PyData := .tuple [.str (wordOf d.less), .int d.a, .int d.s, .int d.b, .int d.t]
def encO (o : Out) : PyData := .tuple [.int o.thing, .int o.shift, .int o.sign]
def encW (w : Web) : PyData := .tuple [.int w.ins, .list (w.deeds.map encD), .list (w.outs.map encO)]
def encT (r : Row) : PyData := .tuple (r.map .int)
def encL (r : Row) : PyData := .list (r.map .int)

/-! ### growing -/
section
variable {α : Type} {f : List α → Deed → α}
theorem grow_len : ∀ (ds : List Deed) (R : List α), (grow f R ds).length = R.length + ds.length
  | [], R => by simp [grow]
  | d :: ds, R => by rw [grow, grow_len ds]; simp; omega
theorem grow_append : ∀ (ds es : List Deed) (R : List α), grow f R (ds ++ es) = grow f (grow f R ds) es
  | [], es, R => rfl
  | d :: ds, es, R => by rw [List.cons_append, grow, grow, grow_append ds es]
theorem grow_snoc (ds : List Deed) (d : Deed) (R : List α) : grow f R (ds ++ [d]) = grow f R ds ++ [f (grow f R ds) d] := by rw [grow_append]; rfl
theorem take_succ_snoc {β : Type} {l : List β} {i : Nat} {x : β} (h : l[i]? = some x) : l.take (i + 1) = l.take i ++ [x] := by rw [List.take_add_one, h]; rfl
theorem grow_take {ds : List Deed} {i : Nat} {d : Deed} (R : List α) (h : ds[i]? = some d) : grow f R (ds.take (i + 1)) = grow f R (ds.take i) ++ [f (grow f R (ds.take i)) d] := by rw [take_succ_snoc h, grow_snoc]
theorem grow_get : ∀ (ds : List Deed) (R : List α) {i : Nat} {x : α}, R[i]? = some x → (grow f R ds)[i]? = some x
  | [], R, i, x, h => h
  | d :: ds, R, i, x, h => by
    rw [grow]
    refine grow_get ds _ ?_
    rw [List.getElem?_append_left (List.getElem?_eq_some_iff.mp h).1]; exact h
/-- a later stage keeps what is there -/
theorem grow_keep {ds : List Deed} {R : List α} {k i : Nat} (hi : i < R.length + k) (hk : k ≤ ds.length) : (grow f R ds)[i]? = (grow f R (ds.take k))[i]? := by
  have e : grow f R ds = grow f (grow f R (ds.take k)) (ds.drop k) := by rw [← grow_append, List.take_append_drop]
  have hl : (grow f R (ds.take k)).length = R.length + k := by rw [grow_len, List.length_take, Nat.min_eq_left hk]
  have h : (grow f R (ds.take k))[i]? = some ((grow f R (ds.take k))[i]'(by omega)) := List.getElem?_eq_getElem _
  rw [e, h]
  exact grow_get _ _ h
end
theorem okDs_append : ∀ (ds es : List Deed) (R : List Row), okDs R (ds ++ es) ↔ okDs R ds ∧ okDs (grow stepR R ds) es
  | [], es, R => by simp [okDs, grow]
  | d :: ds, es, R => by rw [List.cons_append, okDs, okDs, okDs_append ds es, grow]; exact and_assoc.symm
theorem okDs_at {ds : List Deed} {R : List Row} (h : okDs R ds) {i : Nat} {d : Deed} (e : ds[i]? = some d) : okD (grow stepR R (ds.take i)) d := by
  have e2 : ds = ds.take i ++ (d :: ds.drop (i + 1)) := by
    obtain ⟨hl, he⟩ := List.getElem?_eq_some_iff.mp e
    conv => lhs; rw [← List.take_append_drop i ds, List.drop_eq_getElem_cons hl, he]
  rw [e2, okDs_append] at h
  exact h.2.1
theorem unitRows_len {n : Nat} : (unitRows n).length = n := by simp [unitRows]
theorem unitRow_len {n i : Nat} : (unitRow n i).length = n := by simp [unitRow]

/-! ### the width of rows -/
theorem getD_mem {α : Type} {l : List α} {i : Nat} {z : α} (h : i < l.length) : l.getD i z ∈ l := by
  rw [List.getD_eq_getElem?_getD, List.getElem?_eq_getElem h]; exact List.getElem_mem h
theorem stepR_len {R : List Row} {d : Deed} {n : Nat} (hR : ∀ r ∈ R, r.length = n) (ha : d.a < R.length) (hb : d.b < R.length) : (stepR R d).length = n := by
  unfold stepR shR
  rw [List.length_zipWith, List.length_map, List.length_map, hR _ (getD_mem ha), hR _ (getD_mem hb), Nat.min_self]
theorem grow_rows_len {n : Nat} : ∀ (ds : List Deed) (R : List Row), (∀ r ∈ R, r.length = n) → okDs R ds → ∀ r ∈ grow stepR R ds, r.length = n
  | [], R, hR, _ => hR
  | d :: ds, R, hR, h => by
    rw [grow]
    refine grow_rows_len ds _ (fun r hr => ?_) h.2
    rcases List.mem_append.mp hr with q | q
    · exact hR r q
    · rw [List.mem_singleton.mp q]; exact stepR_len hR h.1.1 h.1.2.1
theorem unitRows_width {n : Nat} : ∀ r ∈ unitRows n, r.length = n := fun r hr => by
  obtain ⟨i, _, e⟩ := List.mem_map.mp hr
  rw [← e]; exact unitRow_len
theorem rows_width {n : Nat} {ds : List Deed} (h : okDs (unitRows n) ds) : ∀ r ∈ rows n ds, r.length = n := grow_rows_len ds _ unitRows_width h
theorem rows_len {n : Nat} {ds : List Deed} : (rows n ds).length = n + ds.length := by unfold rows; rw [grow_len, unitRows_len]

/-! ### how great -/
def Bd (k : Nat) (R : List Row) : Prop := ∀ r ∈ R, ∀ x ∈ r, x.natAbs ≤ 2 ^ k
theorem shI_le {n s : Int} {k S : Nat} (h : n.natAbs ≤ 2 ^ k) (hs : s ≤ S) : (shI n s).natAbs ≤ 2 ^ (k + S) := by
  unfold shI
  split
  · rw [Int.natAbs_mul, Int.natAbs_pow, Nat.pow_add]
    exact Nat.mul_le_mul h (Nat.pow_le_pow_right (by decide) (by omega))
  · refine Nat.le_trans ?_ (Nat.le_trans h (Nat.pow_le_pow_right (by decide) (Nat.le_add_right _ _)))
    have hp : (0 : Int) < 2 ^ (-s).toNat := Int.pow_pos (by decide)
    generalize (2 : Int) ^ (-s).toNat = m at hp
    rcases Int.lt_or_le n 0 with hn | hn
    · have h1 : n ≤ n / m := by
        rw [Int.le_ediv_iff_mul_le hp]
        have : n * m ≤ n * 1 := Int.mul_le_mul_of_nonpos_left (by omega) (by omega)
        omega
      have h2 : n / m < 0 := Int.ediv_neg_of_neg_of_pos hn hp
      omega
    · have h1 : 0 ≤ n / m := Int.ediv_nonneg hn (by omega)
      have h2 : n / m ≤ n := Int.ediv_le_self m hn
      omega
theorem sg_le {less : Bool} {x y : Int} {k : Nat} (hx : x.natAbs ≤ 2 ^ k) (hy : y.natAbs ≤ 2 ^ k) : (sg less x y).natAbs ≤ 2 ^ (k + 1) := by
  rw [Nat.pow_succ]
  unfold sg
  split <;> omega
theorem mem_zipWith {α β γ : Type} {f : α → β → γ} : ∀ {xs : List α} {ys : List β} {z : γ}, z ∈ List.zipWith f xs ys → ∃ x ∈ xs, ∃ y ∈ ys, z = f x y
  | [], _, _, h => by simp at h
  | _ :: _, [], _, h => by simp at h
  | x :: xs, y :: ys, z, h => by
    rcases List.mem_cons.mp h with e | h
    · exact ⟨x, List.mem_cons_self, y, List.mem_cons_self, e⟩
    · obtain ⟨x', hx, y', hy, e⟩ := mem_zipWith h
      exact ⟨x', List.mem_cons_of_mem _ hx, y', List.mem_cons_of_mem _ hy, e⟩
theorem getD_memR {R : List Row} {i : Nat} {x : Int} (h : x ∈ R.getD i []) : ∃ r ∈ R, x ∈ r := by
  by_cases hi : i < R.length
  · exact ⟨_, getD_mem hi, h⟩
  · rw [List.getD_eq_getElem?_getD, List.getElem?_eq_none (by omega)] at h; simp at h
theorem bd_step {R : List Row} {d : Deed} {k S : Nat} (h : Bd k R) (hs : d.s ≤ S) (ht : d.t ≤ S) : ∀ x ∈ stepR R d, x.natAbs ≤ 2 ^ (k + S + 1) := fun x hx => by
  obtain ⟨p, hp, q, hq, e⟩ := mem_zipWith hx
  obtain ⟨p', hp', rfl⟩ := List.mem_map.mp hp
  obtain ⟨q', hq', rfl⟩ := List.mem_map.mp hq
  obtain ⟨r1, m1, m2⟩ := getD_memR hp'
  obtain ⟨r2, m3, m4⟩ := getD_memR hq'
  rw [e]
  exact sg_le (shI_le (h _ m1 _ m2) hs) (shI_le (h _ m3 _ m4) ht)
theorem Bd.mono {R : List Row} {k j : Nat} (h : Bd k R) (hk : k ≤ j) : Bd j R := fun r hr x hx => Nat.le_trans (h r hr x hx) (Nat.pow_le_pow_right (by decide) hk)
theorem bd_grow {S : Nat} : ∀ (ds : List Deed) (R : List Row) (k : Nat), Bd k R → (∀ d ∈ ds, d.s ≤ S ∧ d.t ≤ S) → Bd (k + (S + 1) * ds.length) (grow stepR R ds)
  | [], R, k, h, _ => by simpa [grow] using h
  | d :: ds, R, k, h, hd => by
    rw [grow]
    have := bd_grow ds (R ++ [stepR R d]) (k + S + 1) (fun r hr x hx => by
      rcases List.mem_append.mp hr with q | q
      · exact h.mono (show k ≤ k + S + 1 by omega) r q x hx
      · rw [List.mem_singleton.mp q] at hx
        exact bd_step h (hd d List.mem_cons_self).1 (hd d List.mem_cons_self).2 x hx) fun e he => hd e (List.mem_cons_of_mem _ he)
    refine this.mono ?_
    rw [List.length_cons, Nat.mul_succ]; omega
theorem bd_units {n : Nat} : Bd 0 (unitRows n) := fun r hr x hx => by
  obtain ⟨i, _, e⟩ := List.mem_map.mp hr
  subst e
  obtain ⟨k, _, e⟩ := List.mem_map.mp hx
  subst e
  split <;> decide
theorem okDs_shifts : ∀ {ds : List Deed} {R : List Row}, okDs R ds → ∀ d ∈ ds, (-4000 ≤ d.s ∧ d.s ≤ 4000) ∧ (-4000 ≤ d.t ∧ d.t ≤ 4000)
  | [], _, _, d, hd => by cases hd
  | e :: ds, R, h, d, hd => by
    rcases List.mem_cons.mp hd with q | q
    · rw [q]; exact ⟨h.1.2.2.1, h.1.2.2.2.1⟩
    · exact okDs_shifts h.2 d q
theorem bd_rows {n : Nat} {ds : List Deed} (h : okDs (unitRows n) ds) (hl : ds.length ≤ 60) : Bd 240060 (rows n ds) := by
  refine (bd_grow (S := 4000) ds _ 0 bd_units fun d hd => ?_).mono (by omega)
  have := okDs_shifts h d hd
  exact ⟨this.1.2, this.2.2⟩

/-! ### rows against values -/
theorem okS_iff {n s : Int} : okS n s ↔ 0 ≤ s ∨ (2 ^ (-s).toNat : Int) ∣ n := by
  unfold okS
  constructor
  · rintro (h | h)
    · exact .inl h
    · exact .inr (Int.dvd_of_emod_eq_zero h)
  · rintro (h | h)
    · exact .inl h
    · exact .inr (Int.emod_eq_zero_of_dvd h)
theorem shI_add {x y s : Int} (hx : okS x s) (hy : okS y s) : shI (x + y) s = shI x s + shI y s := by
  rw [okS_iff] at hx hy
  unfold shI
  split
  · rw [Int.add_mul]
  · rename_i h
    rcases hx with hx | hx
    · exact absurd hx h
    · exact Int.add_ediv_of_dvd_left hx
theorem shI_mul {x c s : Int} (hx : okS x s) : shI (x * c) s = shI x s * c := by
  rw [okS_iff] at hx
  unfold shI
  split
  · rw [Int.mul_right_comm]
  · rename_i h
    rcases hx with hx | hx
    · exact absurd hx h
    · rw [Int.mul_ediv_assoc' _ hx]
theorem okS_add {x y s : Int} (hx : okS x s) (hy : okS y s) : okS (x + y) s := by
  rw [okS_iff] at *
  rcases hx with hx | hx
  · exact .inl hx
  · rcases hy with hy | hy
    · exact .inl hy
    · exact .inr (Int.dvd_add hx hy)
theorem okS_mul {x c s : Int} (hx : okS x s) : okS (x * c) s := by
  rw [okS_iff] at *
  rcases hx with hx | hx
  · exact .inl hx
  · exact .inr (Int.dvd_mul_of_dvd_left hx)
theorem okS_zero {s : Int} : okS 0 s := by rw [okS_iff]; exact .inr (Int.dvd_zero _)
theorem shI_zero {s : Int} : shI 0 s = 0 := by unfold shI; split <;> simp
theorem okS_dot {s : Int} : ∀ {r v : List Int}, okR r s → okS (dot r v) s
  | [], v, _ => by unfold dot; simp; exact okS_zero
  | _ :: _, [], _ => by unfold dot; simp; exact okS_zero
  | x :: r, c :: v, h => by
    have e : dot (x :: r) (c :: v) = x * c + dot r v := by simp [dot]
    rw [e]
    exact okS_add (okS_mul (h x List.mem_cons_self)) (okS_dot fun y hy => h y (List.mem_cons_of_mem _ hy))
theorem dot_sh {s : Int} : ∀ {r v : List Int}, okR r s → dot (shR r s) v = shI (dot r v) s
  | [], v, _ => by simp [dot, shR, shI_zero]
  | _ :: _, [], _ => by simp [dot, shR, shI_zero]
  | x :: r, c :: v, h => by
    have e : dot (x :: r) (c :: v) = x * c + dot r v := by simp [dot]
    have e2 : dot (shR (x :: r) s) (c :: v) = shI x s * c + dot (shR r s) v := by simp [dot, shR]
    have hr : okR r s := fun y hy => h y (List.mem_cons_of_mem _ hy)
    rw [e, e2, shI_add (okS_mul (h x List.mem_cons_self)) (okS_dot hr), shI_mul (h x List.mem_cons_self), dot_sh hr]
theorem dot_sg {less : Bool} : ∀ {x y v : List Int}, x.length = y.length → dot (List.zipWith (sg less) x y) v = sg less (dot x v) (dot y v)
  | [], [], v, _ => by simp [dot, sg]
  | [], _ :: _, _, h => by simp at h
  | _ :: _, [], _, h => by simp at h
  | _ :: _, _ :: _, [], _ => by simp [dot, sg]
  | a :: x, b :: y, c :: v, h => by
    have e : ∀ (p : Int) (q : List Int), dot (p :: q) (c :: v) = p * c + dot q v := fun p q => by simp [dot]
    rw [List.zipWith_cons_cons, e, e, e, dot_sg (by simpa using h)]
    unfold sg
    split
    · rw [Int.sub_mul]; omega
    · rw [Int.add_mul]; omega
theorem dot_scale {c : Int} : ∀ {r v : List Int}, dot (r.map (c * ·)) v = c * dot r v
  | [], v => by simp [dot]
  | _ :: _, [] => by simp [dot]
  | x :: r, y :: v => by
    have e : ∀ (p : Int) (q : List Int), dot (p :: q) (y :: v) = p * y + dot q v := fun p q => by simp [dot]
    rw [List.map_cons, e, e, dot_scale, Int.mul_add, Int.mul_assoc]
theorem getD_map {α β : Type} {f : α → β} {l : List α} {i : Nat} {z : α} {y : β} (hi : i < l.length) : (l.map f).getD i y = f (l.getD i z) := by
  rw [List.getD_eq_getElem?_getD, List.getD_eq_getElem?_getD, List.getElem?_map, List.getElem?_eq_getElem hi]; rfl
theorem stepV_dot {R : List Row} {v : List Int} {d : Deed} {n : Nat} (hR : ∀ r ∈ R, r.length = n) (h : okD R d) : stepV (R.map (dot · v)) d = dot (stepR R d) v := by
  obtain ⟨ha, hb, _, _, oa, ob⟩ := h
  unfold stepV stepR
  rw [getD_map (z := []) ha, getD_map (z := []) hb, dot_sg, dot_sh oa, dot_sh ob]
  unfold shR
  rw [List.length_map, List.length_map, hR _ (getD_mem ha), hR _ (getD_mem hb)]
theorem grow_dot {v : List Int} {n : Nat} : ∀ (ds : List Deed) (R : List Row), (∀ r ∈ R, r.length = n) → okDs R ds → grow stepV (R.map (dot · v)) ds = (grow stepR R ds).map (dot · v)
  | [], R, _, _ => rfl
  | d :: ds, R, hR, h => by
    rw [grow, grow, stepV_dot hR h.1]
    have e : R.map (dot · v) ++ [dot (stepR R d) v] = (R ++ [stepR R d]).map (dot · v) := by simp
    rw [e]
    refine grow_dot (n := n) ds _ (fun r hr => ?_) h.2
    rcases List.mem_append.mp hr with q | q
    · exact hR r q
    · rw [List.mem_singleton.mp q]; exact stepR_len hR h.1.1 h.1.2.1
theorem dot_unit : ∀ {v : List Int} {i : Nat}, i < v.length → dot (unitRow v.length i) v = v.getD i 0 := by
  have key : ∀ (v : List Int) (k i : Nat), dot ((List.range' k v.length).map fun j => if j = i then 1 else 0) v = if k ≤ i then v.getD (i - k) 0 else 0 := by
    intro v
    induction v with
    | nil => intro k i; simp [dot]
    | cons c v ih =>
      intro k i
      have e : dot ((List.range' k (c :: v).length).map fun j => if j = i then (1 : Int) else 0) (c :: v) = (if k = i then 1 else 0) * c + dot ((List.range' (k + 1) v.length).map fun j => if j = i then 1 else 0) v := by
        rw [List.length_cons, List.range'_succ]; simp [dot]
      rw [e, ih]
      by_cases h1 : k = i
      · subst h1
        have h3 : ¬ k + 1 ≤ k := by omega
        simp [h3]
      · by_cases h2 : k ≤ i
        · have h3 : k + 1 ≤ i := by omega
          have h4 : i - k = (i - (k + 1)) + 1 := by omega
          simp [h1, h2, h3]
          rw [h4, List.getElem?_cons_succ]
        · have h3 : ¬ k + 1 ≤ i := by omega
          simp [h1, h2, h3]
  intro v i hi
  have := key v 0 i
  unfold unitRow
  rw [List.range_eq_range', this]; simp
theorem units_dot {v : List Int} : (unitRows v.length).map (dot · v) = v := by
  apply List.ext_getElem?
  intro i
  unfold unitRows
  rw [List.map_map, List.getElem?_map]
  by_cases hi : i < v.length
  · rw [List.getElem?_range hi, List.getElem?_eq_getElem hi]
    show some (dot (unitRow v.length i) v) = _
    rw [dot_unit hi, List.getD_eq_getElem?_getD, List.getElem?_eq_getElem hi]; rfl
  · rw [List.getElem?_eq_none (by simpa using hi), List.getElem?_eq_none (by omega)]; rfl
/-- what a web's things are for values, by rows -/
theorem vals_rows {w : Web} {v : List Int} (h : okDs (unitRows w.ins) w.deeds) (hv : v.length = w.ins) : w.vals v = w.rows.map (dot · v) := by
  unfold Web.vals Web.rows SS.rows
  rw [← grow_dot w.deeds _ unitRows_width h, ← hv, units_dot]
theorem vals_take {n : Nat} {ds : List Deed} {v : List Int} (h : okDs (unitRows n) ds) (hv : v.length = n) (k : Nat) : grow stepV v (ds.take k) = (rows n (ds.take k)).map (dot · v) := by
  have h2 : okDs (unitRows n) (ds.take k) := ((okDs_append (ds.take k) (ds.drop k) _).mp (by rw [List.take_append_drop]; exact h)).1
  exact vals_rows (w := ⟨n, ds.take k, []⟩) h2 hv
theorem okDs_take {R : List Row} {ds : List Deed} (h : okDs R ds) (k : Nat) : okDs R (ds.take k) := ((okDs_append (ds.take k) (ds.drop k) _).mp (by rw [List.take_append_drop]; exact h)).1
theorem okR_none {s : Int} : okR [] s := fun x hx => by cases hx
theorem outVals_rows {w : Web} {v : List Int} (h : w.ok) (hv : v.length = w.ins) : w.outVals v = w.outRows.map (dot · v) := by
  unfold Web.outVals Web.outRows
  rw [vals_rows h.ds hv, List.map_map]
  refine List.map_congr_left fun o ho => ?_
  show outV (w.rows.map (dot · v)) o = dot (outRow w.rows o) v
  unfold outV outRow
  rw [dot_scale]
  rcases h.os o ho with q | ⟨h1, _, h3, _⟩
  · rw [q]; show (0 : Int) * _ = 0 * _; simp
  · rw [getD_map (z := []) h1, dot_sh h3]
/-- the numbers for the values that are 1 at one place -/
theorem dot_bound {B k : Nat} : ∀ {r v : List Int}, (∀ x ∈ r, x.natAbs ≤ 2 ^ k) → (∀ x ∈ v, x.natAbs ≤ 2 ^ B) → (dot r v).natAbs ≤ r.length * 2 ^ (k + B)
  | [], v, _, _ => by simp [dot]
  | _ :: _, [], _, _ => by simp [dot]
  | x :: r, c :: v, h1, h2 => by
    have e : dot (x :: r) (c :: v) = x * c + dot r v := by simp [dot]
    rw [e, List.length_cons, Nat.succ_mul]
    have a := dot_bound (r := r) (v := v) (fun y hy => h1 y (List.mem_cons_of_mem _ hy)) (fun y hy => h2 y (List.mem_cons_of_mem _ hy))
    have b : (x * c).natAbs ≤ 2 ^ (k + B) := by
      rw [Int.natAbs_mul, Nat.pow_add]
      exact Nat.mul_le_mul (h1 x List.mem_cons_self) (h2 c List.mem_cons_self)
    omega
end SS
namespace SS
open PySem
/-! ### arrows -/
structure Arr where
  st : Nat
  en : Nat
  sh : Int
  sn : Int
def encA (a : Arr) : PyData := .tuple [.int a.st, .int a.en, .int a.sh, .int a.sn]
def sgn (less : Bool) : Int := if less then -1 else 1
def Web.arrD (w : Web) (k : Nat) : List Arr := match w.deeds[k]? with
  | some d => [⟨d.a, w.ins + k, d.s, 1⟩, ⟨d.b, w.ins + k, d.t, sgn d.less⟩]
  | none => []
def Web.arrO (w : Web) (k : Nat) : List Arr := match w.outs[k]? with
  | some o => if o.sign = 0 then [] else [⟨o.thing, w.ins + w.deeds.length + k, o.shift, o.sign⟩]
  | none => []
def Web.arrs (w : Web) : List Arr := ((List.range w.deeds.length).map w.arrD).flatten ++ ((List.range w.outs.length).map w.arrO).flatten
theorem flat_succ {α : Type} {f : Nat → List α} {i : Nat} : ((List.range (i + 1)).map f).flatten = ((List.range i).map f).flatten ++ f i := by rw [List.range_succ]; simp
/-! ### widths -/
def wr (n : Int) (w : Nat) : Int := if n % 2 ^ w ≥ 2 ^ w / 2 then n % 2 ^ w - 2 ^ w else n % 2 ^ w
def shW (n s : Int) (w : Nat) : Int := if s < 0 then n / 2 ^ (-s).toNat else wr (n * 2 ^ s.toNat) w
def stepW (w : Nat) (V : List Int) (d : Deed) : Int := wr (sg d.less (shW (V.getD d.a 0) d.s w) (shW (V.getD d.b 0) d.t w)) w
def Web.valsW (x : Web) (w : Nat) (v : List Int) : List Int := grow (stepW w) (v.map (wr · w)) x.deeds
def outW (w : Nat) (V : List Int) (o : Out) : Int := wr (o.sign * shW (V.getD o.thing 0) o.shift w) w
def Web.outsW (x : Web) (w : Nat) (v : List Int) : List Int := x.outs.map (outW w (x.valsW w v))
def mn (i j : Int) : Int := if j < i then j else i
def mx (i j : Int) : Int := if j > i then j else i
def psure (bits s w : Int) : Int := mx 0 (mn w (bits + s))
def stepS (w : Int) (V : List Int) (d : Deed) : Int := mn (psure (V.getD d.a 0) d.s w) (psure (V.getD d.b 0) d.t w)
def Web.sures (x : Web) (w : Nat) : List Int := grow (stepS w) (List.replicate x.ins (w : Int)) x.deeds
/-! ### how great values are -/
theorem pow12 {k : Nat} : 12 * 2 ^ k ≤ 2 ^ (k + 4) := by rw [Nat.pow_add]; omega
theorem deed_val {n : Nat} {ds : List Deed} {v : List Int} {B : Nat} (h : okDs (unitRows n) ds) (hn : n ≤ 12) (hl : ds.length ≤ 60) (hv : v.length = n) (hb : ∀ y ∈ v, y.natAbs ≤ 2 ^ B) {i : Nat} (hi : i ≤ ds.length) {a : Nat} (ha : a < n + i) :
    (grow stepV v (ds.take i)).getD a 0 = dot ((rows n (ds.take i)).getD a []) v ∧ ((grow stepV v (ds.take i)).getD a 0).natAbs ≤ 2 ^ (240064 + B) := by
  have e := vals_take h hv i
  have hl2 : a < (rows n (ds.take i)).length := by rw [rows_len, List.length_take]; omega
  rw [e, getD_map (z := []) hl2]
  refine ⟨rfl, ?_⟩
  have hr := bd_rows (okDs_take h i) (by rw [List.length_take]; omega) _ (getD_mem (z := []) hl2)
  have hw := rows_width (okDs_take h i) _ (getD_mem (z := []) hl2)
  refine Nat.le_trans (dot_bound hr hb) ?_
  rw [hw]
  have h2 : 2 ^ (240064 + B) = 2 ^ (240060 + B) * 16 := by
    rw [show 240064 + B = (240060 + B) + 4 by omega, Nat.pow_add]
  rw [h2, Nat.mul_comm]
  exact Nat.mul_le_mul_left _ (by omega)

theorem wr_bound {n : Int} {w : Nat} : -(2 ^ w) ≤ wr n w ∧ wr n w ≤ 2 ^ w := by
  unfold wr
  have hp : (0 : Int) < 2 ^ w := Int.pow_pos (by decide)
  have h1 := Int.emod_nonneg n (Int.ne_of_gt hp)
  have h2 := Int.emod_lt_of_pos n hp
  generalize (2 : Int) ^ w = m at *
  split <;> omega
theorem wr_le {n : Int} {w : Nat} : (wr n w).natAbs ≤ 2 ^ w := by
  have h := wr_bound (n := n) (w := w)
  have e : ((2 ^ w : Nat) : Int) = 2 ^ w := by norm_cast
  omega
def endsF (acc : Int × Int) (p : Int × (Int × Int)) : Int × Int := (acc.1 + mn (p.1 * p.2.1) (p.1 * p.2.2), acc.2 + mx (p.1 * p.2.1) (p.1 * p.2.2))
def endsL (r : Row) (rg : List (Int × Int)) : Int × Int := (r.zip rg).foldl endsF (0, 0)
def rngF (half : Int) (acc : Int × Int) (n : Int) : Int × Int :=
  if n > 0 then (mx acc.1 (-(half / n)), mn acc.2 ((half - 1) / n)) else if n < 0 then (mx acc.1 (-((half - 1) / -n)), mn acc.2 (half / -n)) else acc
def rngL (half : Int) (ns : List Int) : Int × Int := ns.foldl (rngF half) (-half, half - 1)
end SS
namespace SS
open PySem
/-! ### parts -/
def liftP (p : Out) (s : Int) : Out := if p.sign = 0 then noOut else ⟨p.thing, p.shift + s, p.sign⟩
def signP (p : Out) (s : Int) : Out := if s = 0 then noOut else if s = 1 then p else ⟨p.thing, p.shift, -p.sign⟩
def sumP (n : Nat) (ds : List Deed) (p q : Out) : List Deed × Out :=
  if p.sign = 0 then (ds, q) else if q.sign = 0 then (ds, p) else if p.sign = q.sign then (ds ++ [⟨false, p.thing, p.shift, q.thing, q.shift⟩], ⟨n + ds.length, 0, p.sign⟩)
  else if p.sign = 1 then (ds ++ [⟨true, p.thing, p.shift, q.thing, q.shift⟩], ⟨n + ds.length, 0, 1⟩) else (ds ++ [⟨true, q.thing, q.shift, p.thing, p.shift⟩], ⟨n + ds.length, 0, 1⟩)
def chainP (n : Nat) (ds : List Deed) (p : Out) (ps : List Out) : List Deed × Out := ps.foldl (fun acc q => sumP n acc.1 acc.2 q) (ds, p)
theorem sumP_len {n : Nat} {ds : List Deed} {p q : Out} : (sumP n ds p q).1.length ≤ ds.length + 1 := by
  unfold sumP
  split
  · simp
  · split
    · simp
    · split
      · simp
      · split <;> simp
theorem chainP_len {n : Nat} : ∀ {ps : List Out} {ds : List Deed} {p : Out}, (chainP n ds p ps).1.length ≤ ds.length + ps.length
  | [], ds, p => by simp [chainP]
  | q :: ps, ds, p => by
    have h : chainP n ds p (q :: ps) = chainP n (sumP n ds p q).1 (sumP n ds p q).2 ps := rfl
    rw [h]
    have := chainP_len (n := n) (ps := ps) (ds := (sumP n ds p q).1) (p := (sumP n ds p q).2)
    have := sumP_len (n := n) (ds := ds) (p := p) (q := q)
    rw [List.length_cons]; omega
end SS
set_option maxHeartbeats 4000000
/-! Data compared. -/
namespace SS
open PySem PySem.Spec PyProof.Rows L2
mutual
/-- ints and texts in lists and tuples, not deeper than k -/
def pl : PyData → Nat → Bool
  | .int _, _ => true
  | .str x, _ => PyData.canLay0 (.str x)
  | .list xs, k => decide (0 < k) && plAll xs (k - 1)
  | .tuple xs, k => decide (0 < k) && plAll xs (k - 1)
  | .none, _ => false
  | .bool _, _ => false
  | .dict _, _ => false
def plAll : List PyData → Nat → Bool
  | [], _ => true
  | x :: xs, k => pl x k && plAll xs k
end
mutual
theorem pl_lay : ∀ (d : PyData) (k : Nat), pl d k = true → d.canLay0 = true ∧ d.depth ≤ k
  | .int _, k, _ => ⟨by simp [PyData.canLay0], by simp [PyData.depth]⟩
  | .str x, k, h => ⟨h, by simp [PyData.depth]⟩
  | .list xs, k, h => by
    simp only [pl, Bool.and_eq_true, decide_eq_true_eq] at h
    obtain ⟨a, b⟩ := plAll_lay xs (k - 1) h.2
    exact ⟨by simpa [PyData.canLay0] using a, by simp only [PyData.depth]; omega⟩
  | .tuple xs, k, h => by
    simp only [pl, Bool.and_eq_true, decide_eq_true_eq] at h
    obtain ⟨a, b⟩ := plAll_lay xs (k - 1) h.2
    exact ⟨by simpa [PyData.canLay0] using a, by simp only [PyData.depth]; omega⟩
  | .none, _, h => by simp [pl] at h
  | .bool _, _, h => by simp [pl] at h
  | .dict _, _, h => by simp [pl] at h
theorem plAll_lay : ∀ (ds : List PyData) (k : Nat), plAll ds k = true → PyData.canLayAll0 ds = true ∧ PyData.depthAll ds ≤ k
  | [], k, _ => ⟨by simp [PyData.canLayAll0], by simp [PyData.depthAll]⟩
  | x :: xs, k, h => by
    simp only [plAll, Bool.and_eq_true] at h
    obtain ⟨a, b⟩ := pl_lay x k h.1
    obtain ⟨c, e⟩ := plAll_lay xs k h.2
    exact ⟨by simp [PyData.canLayAll0, a, c], by simp only [PyData.depthAll]; omega⟩
end
theorem pl_shaped {d : PyData} {k : Nat} (h : pl d k = true) (hk : k ≤ 64) : SeqAt.shaped d = true := by
  obtain ⟨a, b⟩ := pl_lay d k h
  unfold SeqAt.shaped
  rw [a, decide_eq_true (by omega)]; rfl
mutual
theorem pl_eqv : ∀ (d e : PyData) (k j : Nat), pl d k = true → pl e j = true → (PyData.eqv d e = true ↔ d = e)
  | .int a, e, k, j, _, h2 => by cases e <;> simp_all [pl, PyData.eqv]
  | .str a, e, k, j, _, h2 => by cases e <;> simp_all [pl, PyData.eqv]
  | .list xs, e, k, j, h1, h2 => by
    simp only [pl, Bool.and_eq_true, decide_eq_true_eq] at h1
    cases e with
    | list ys =>
      simp only [pl, Bool.and_eq_true, decide_eq_true_eq] at h2
      rw [PyData.eqv, plAll_eqv xs ys _ _ h1.2 h2.2]; simp
    | _ => simp_all [pl, PyData.eqv]
  | .tuple xs, e, k, j, h1, h2 => by
    simp only [pl, Bool.and_eq_true, decide_eq_true_eq] at h1
    cases e with
    | tuple ys =>
      simp only [pl, Bool.and_eq_true, decide_eq_true_eq] at h2
      rw [PyData.eqv, plAll_eqv xs ys _ _ h1.2 h2.2]; simp
    | _ => simp_all [pl, PyData.eqv]
  | .none, _, _, _, h, _ => by simp [pl] at h
  | .bool _, _, _, _, h, _ => by simp [pl] at h
  | .dict _, _, _, _, h, _ => by simp [pl] at h
theorem plAll_eqv : ∀ (ds es : List PyData) (k j : Nat), plAll ds k = true → plAll es j = true → (PyData.eqvAll ds es = true ↔ ds = es)
  | [], [], _, _, _, _ => by simp [PyData.eqvAll]
  | [], _ :: _, _, _, _, _ => by simp [PyData.eqvAll]
  | _ :: _, [], _, _, _, _ => by simp [PyData.eqvAll]
  | x :: xs, y :: ys, k, j, h1, h2 => by
    simp only [plAll, Bool.and_eq_true] at h1 h2
    rw [PyData.eqvAll, Bool.and_eq_true, pl_eqv x y k j h1.1 h2.1, plAll_eqv xs ys k j h1.2 h2.2]; simp
end
theorem plAll_map {α : Type} {f : α → PyData} {k : Nat} : ∀ {l : List α}, (∀ a ∈ l, pl (f a) k = true) → plAll (l.map f) k = true
  | [], _ => by simp [plAll]
  | a :: l, h => by rw [List.map_cons, plAll, h a List.mem_cons_self, plAll_map fun b hb => h b (List.mem_cons_of_mem _ hb)]; rfl
theorem plAll_mono {k j : Nat} (h : k ≤ j) : True := trivial
theorem pl_ints {r : Row} {k : Nat} : plAll (r.map .int) k = true := plAll_map fun _ _ => by simp [pl]
theorem pl_encT {r : Row} {k : Nat} : pl (encT r) (k + 1) = true := by simp [encT, pl, pl_ints]
theorem pl_encL {r : Row} {k : Nat} : pl (encL r) (k + 1) = true := by simp [encL, pl, pl_ints]
theorem pl_word {b : Bool} : PyData.canLay0 (.str (wordOf b)) = true := by cases b <;> decide +kernel
theorem pl_encD {d : Deed} {k : Nat} : pl (encD d) (k + 1) = true := by simp [encD, pl, plAll, pl_word]
theorem pl_encO {d : Out} {k : Nat} : pl (encO d) (k + 1) = true := by simp [encO, pl, plAll]
theorem pl_encW {w : Web} {k : Nat} : pl (encW w) (k + 3) = true := by
  have h1 : plAll (w.deeds.map encD) (k + 1) = true := plAll_map fun _ _ => pl_encD
  have h2 : plAll (w.outs.map encO) (k + 1) = true := plAll_map fun _ _ => pl_encO
  simp [encW, pl, plAll, h1, h2]
section
variable {X : Cx} {δ : Dl} {a b : Expr} {d e : PyData} {pos : Pos}
theorem dt_eqP (k j : Nat) (hu : X.A.units + 64 < cLine) (ha : DP X a δ d) (hb : DP X b δ e) (h1 : pl d k = true) (h2 : pl e j = true) (hk : k ≤ 64 := by decide) (hj : j ≤ 64 := by decide) : ∃ p, DT X (.Compare a [.Eq] [b] pos) δ p ∧ (p = true ↔ d = e) :=
  ⟨_, dt_eqD hu ha hb (pl_shaped h1 hk) (pl_shaped h2 hj), pl_eqv d e k j h1 h2⟩
theorem dt_neP (k j : Nat) (hu : X.A.units + 64 < cLine) (ha : DP X a δ d) (hb : DP X b δ e) (h1 : pl d k = true) (h2 : pl e j = true) (hk : k ≤ 64 := by decide) (hj : j ≤ 64 := by decide) : ∃ p, DT X (.Compare a [.NotEq] [b] pos) δ p ∧ (p = false ↔ d = e) :=
  ⟨_, dt_neD hu ha hb (pl_shaped h1 hk) (pl_shaped h2 hj), by rw [← pl_eqv d e k j h1 h2]; simp⟩
/-- equal, as it happens -/
theorem dt_neT (k : Nat) (hu : X.A.units + 64 < cLine) (ha : DP X a δ d) (hb : DP X b δ d) (h1 : pl d k = true) (hk : k ≤ 64 := by decide) : DT X (.Compare a [.NotEq] [b] pos) δ false := by
  obtain ⟨p, h, e⟩ := dt_neP (pos := pos) k k hu ha hb h1 h1 hk hk
  have : p = false := e.mpr rfl
  rwa [this] at h
theorem dt_eqT (k : Nat) (hu : X.A.units + 64 < cLine) (ha : DP X a δ d) (hb : DP X b δ d) (h1 : pl d k = true) (hk : k ≤ 64 := by decide) : DT X (.Compare a [.Eq] [b] pos) δ true := by
  obtain ⟨p, h, e⟩ := dt_eqP (pos := pos) k k hu ha hb h1 h1 hk hk
  have : p = true := e.mpr rfl
  rwa [this] at h
theorem dt_eqDec (q : Prop) [Decidable q] (k j : Nat) (hu : X.A.units + 64 < cLine) (ha : DP X a δ d) (hb : DP X b δ e) (h1 : pl d k = true) (h2 : pl e j = true) (hq : d = e ↔ q) (hk : k ≤ 64 := by decide) (hj : j ≤ 64 := by decide) : DT X (.Compare a [.Eq] [b] pos) δ (decide q) := by
  obtain ⟨p, h, e⟩ := dt_eqP (pos := pos) k j hu ha hb h1 h2 hk hj
  have : p = decide q := by
    cases p with
    | true => exact (decide_eq_true (hq.mp (e.mp rfl))).symm
    | false => exact (decide_eq_false fun z => by have := e.mpr (hq.mpr z); cases this).symm
  rwa [this] at h
end
end SS
set_option maxHeartbeats 4000000
/-! The walks, one: numbers.py, webs.py. -/
namespace SS
open PySem PySem.Spec PyProof.Rows L2
def encTs (R : List Row) : PyData := .list (R.map encT)
def Sz (R : List Row) : Prop := (∀ r ∈ R, r.length ≤ 12) ∧ Bd 240060 R
def GI (mg : Str → Option Value) (x : Str) (n : Int) : Prop := ∃ t, mg x = some (.int n t)
def GS (mg : Str → Option Value) (x : Str) (s : Str) : Prop := ∃ t, mg x = some (.str s t)
section
variable {X : Cx} {δ : Dl} {x : Str} {n : Int} {s : Str} {pos : Pos}
theorem dp_globI (h : GI X.mg x n) (hg : Gl X x := by rfl) (hd : (x == ("__debug__" : Str)) = false := by decide) : DP X (.Name x pos) δ (.int n) := let ⟨t, e⟩ := h; dp_glob hg e (v := .int n) ⟨t, rfl⟩ (fun _ => .int n) hd
theorem dp_globS (h : GS X.mg x s) (hg : Gl X x := by rfl) (hd : (x == ("__debug__" : Str)) = false := by decide) : DP X (.Name x pos) δ (.str s) := let ⟨t, e⟩ := h; dp_glob hg e (v := .str s) ⟨t, rfl⟩ (fun _ => .str s) hd
end
def R_whole (ds : List PyData) (d : PyData) : Prop := ∃ i : Int, ds = [.int i] ∧ d = .bool true
def R_shifted (ds : List PyData) (d : PyData) : Prop := ∃ n s : Int, ds = [.int n, .int s] ∧ (-4000 ≤ s ∧ s ≤ 4000) ∧ n.natAbs ≤ 2 ^ 1000000 ∧ okS n s ∧ d = .int (shI n s)
def R_part (ds : List PyData) (d : PyData) : Prop := ∃ (R : List Row) (a : Nat) (s : Int), ds = [encTs R, .int a, .int s] ∧ a < R.length ∧ (-4000 ≤ s ∧ s ≤ 4000) ∧ okR (R.getD a []) s ∧ Sz R ∧ d = encT (shR (R.getD a []) s)
def R_deedn (ds : List PyData) (d : PyData) : Prop := ∃ (R : List Row) (e : Deed), ds = [encTs R, encD e] ∧ okD R e ∧ Sz R ∧ d = encT (stepR R e)
def R_nout (ds : List PyData) (d : PyData) : Prop := ∃ (R : List Row) (o : Out), ds = [encTs R, encO o] ∧ okO R o ∧ Sz R ∧ 0 < R.length ∧ d = encT (outRow R o)
def R_told (ds : List PyData) (d : PyData) : Prop := ∃ (n : Nat) (es : List Deed), ds = [.int n, .list (es.map encD)] ∧ okDs (unitRows n) es ∧ n ≤ 12 ∧ es.length ≤ 60 ∧ d = encTs (rows n es)
def R_faults (ds : List PyData) (d : PyData) : Prop := ∃ x : Web, x.ok ∧ ds = [.int x.ins, .list (x.deeds.map encD), .list (x.outs.map encO)] ∧ d = .list []
def R_webof (ds : List PyData) (d : PyData) : Prop := ∃ x : Web, x.ok ∧ ds = [.int x.ins, .list (x.deeds.map encD), .list (x.outs.map encO)] ∧ d = encW x
def R_numbers (ds : List PyData) (d : PyData) : Prop := ∃ x : Web, x.ok ∧ ds = [encW x] ∧ d = encTs x.rows
def R_outnumbers (ds : List PyData) (d : PyData) : Prop := ∃ x : Web, x.ok ∧ ds = [encW x] ∧ d = encTs x.outRows
def S_units (svs : List SV) (O : Rs) (post : Post) : Prop := ∃ n : Nat, n ≤ 12 ∧ svs = [.dat (.int n)] ∧ post (.ptr O.length) (O ++ [.lst (((unitRows n).map encT).map .dat)])
theorem rng_enc {n : Nat} : (List.range n).map (fun i : Nat => PyData.int i) = rngD 0 n := by unfold rngD; simp
theorem pow_lt {n : Int} {k : Nat} (h : n.natAbs ≤ 2 ^ k) : n.natAbs < 2 ^ (k + 1) := Nat.lt_of_le_of_lt h (Nat.pow_lt_pow_right (by decide) (by omega))
theorem Sz.get {R : List Row} (h : Sz R) {a : Nat} : (R.getD a []).length ≤ 12 ∧ ∀ x ∈ R.getD a [], x.natAbs ≤ 2 ^ 240060 := by
  by_cases ha : a < R.length
  · exact ⟨h.1 _ (getD_mem ha), h.2 _ (getD_mem ha)⟩
  · rw [List.getD_eq_getElem?_getD, List.getElem?_eq_none (by omega)]; exact ⟨by simp, fun x hx => by cases hx⟩
theorem sz_rows {n : Nat} {ds : List Deed} (h : okDs (unitRows n) ds) (hn : n ≤ 12) (hl : ds.length ≤ 60) : Sz (rows n ds) := ⟨fun r hr => by rw [rows_width h r hr]; exact hn, bd_rows h hl⟩
theorem atI_nat {α : Type} {l : List α} {i : Nat} {x : α} (h : l[i]? = some x) : atI l (i : Int) = some x := by
  have hl := (List.getElem?_eq_some_iff.mp h).1
  unfold atI ixN
  rw [if_pos (by omega), if_pos (by omega)]
  show l[(i : Int).toNat]? = _
  rw [Int.toNat_natCast]; exact h
theorem getD_at {α : Type} {l : List α} {i : Nat} {z : α} (h : i < l.length) : l[i]? = some (l.getD i z) := by rw [List.getD_eq_getElem?_getD, List.getElem?_eq_getElem h]; rfl
theorem encTs_at {R : List Row} {a : Nat} (h : a < R.length) : atI (R.map encT) (a : Int) = some (encT (R.getD a [])) := atI_nat (by rw [List.getElem?_map, getD_at (z := []) h]; rfl)
theorem none_in {r : Row} {g : Int → Int} : ((r.map fun x => PyData.int (g x)).any fun y => eqF y .none) = false := by
  induction r with
  | nil => rfl
  | cons x r ih => rw [List.map_cons, List.any_cons, ih]; rfl
theorem ints_flat {r : Row} {g : Int → Int} : (r.map fun x => PyData.int (g x)).all flatD = true := by
  induction r with
  | nil => rfl
  | cons x r ih => rw [List.map_cons, List.all_cons, ih]; rfl
section
variable {P : Program} {w : World} {K : PySem.W.Frag} {mg : Str → Option Value} {base : Heap}
theorem sc_11 : FnScope ["thing"] ["thing"] (defScope (top 11)) := ⟨rfl, rfl, rfl, by decide +kernel, rfl, by decide +kernel, by decide +kernel⟩
theorem sc_13 : FnScope ["number", "shift"] ["number", "shift"] (defScope (top 13)) := ⟨rfl, rfl, rfl, by decide +kernel, rfl, by decide +kernel, by decide +kernel⟩
theorem sc_18 : FnScope ["ins", "i", "k"] ["ins"] (defScope (top 18)) := ⟨rfl, rfl, rfl, by decide +kernel, rfl, by decide +kernel, by decide +kernel⟩
theorem sc_19 : FnScope ["told", "thing", "shift", "found", "number"] ["told", "thing", "shift"] (defScope (top 19)) := ⟨rfl, rfl, rfl, by decide +kernel, rfl, by decide +kernel, by decide +kernel⟩
theorem sc_20 : FnScope ["told", "deed", "word", "a", "s", "b", "t", "one", "other", "first", "second"] ["told", "deed"] (defScope (top 20)) := ⟨rfl, rfl, rfl, by decide +kernel, rfl, by decide +kernel, by decide +kernel⟩
theorem sc_21 : FnScope ["told", "out", "thing", "shift", "sign", "found", "part", "number"] ["told", "out"] (defScope (top 21)) := ⟨rfl, rfl, rfl, by decide +kernel, rfl, by decide +kernel, by decide +kernel⟩
theorem cal_whole (B : Bi mg) (D : Df K mg "is_whole" "is_whole" (top 11) ["thing"]) : Cal P w K mg base "is_whole" 1 ["thing"] (spP K R_whole) := by
  refine cal_P (N := ["thing"]) D sc_11 (by rintro ds d ⟨n, rfl, _⟩; rfl) (by decide) (fun f cdv A outer s H E hr ds d h => ?_)
  obtain ⟨i, rfl, rfl⟩ := h
  show DS _ _ [.dat (.int i)] [] _ _
  exact ret1 (dp_and (dp_isi (p := true) B (dp_var 0) B.int PyProof.Rows.boot_int rfl (by decide +kernel)) fun _ => dp_one (dp_not (dp_isi (p := false) B (dp_var 0) B.bool PyProof.Rows.boot_bool rfl (by decide +kernel)))) rfl
theorem cal_shifted (D : Df K mg "shifted" "shifted" (top 13) ["number", "shift"]) : Cal P w K mg base "shifted" 1 ["number", "shift"] (spP K R_shifted) := by
  refine cal_P (N := ["number", "shift"]) D sc_13 (by rintro ds d ⟨n, s, rfl, _⟩; rfl) (by decide) (fun f cdv A outer s H E hr ds d h => ?_)
  obtain ⟨n, s, rfl, ⟨h1, h2⟩, h3, h4, rfl⟩ := h
  show DS _ _ [.dat (.int n), .dat (.int s)] [] _ _
  refine if1 (dt_ge (dp_var 1) dp_int) (fun h => ?_) (fun h => ?_)
  · have h0 : 0 ≤ s := of_decide_eq_true h
    refine ret1 (dp_shl (dp_var 0) (dp_var 1) ?_) ?_
    · obtain ⟨m, rfl⟩ := Int.eq_ofNat_of_zero_le h0
      exact shl_ok (pow_lt h3) (by omega)
    · unfold shI; rw [if_pos h0]
  · have h0 : ¬ 0 ≤ s := of_decide_eq_false h
    have e : (1 : Int) * 2 ^ (-s).toNat = 2 ^ (-s).toNat := Int.one_mul _
    have hp : (0 : Int) < 1 * 2 ^ (-s).toNat := by rw [e]; exact Int.pow_pos (by decide)
    refine if1 (dt_neI (dp_mod (dp_var 0) (dp_shl dp_int (dp_neg (dp_var 1)) ?_) hp) dp_int) (fun h => ?_) (fun h => ?_)
    · obtain ⟨m, hm⟩ := Int.eq_ofNat_of_zero_le (show 0 ≤ -s by omega)
      rw [hm]
      exact shl_ok (n := 1) (by decide) (by omega)
    · rcases h4 with h4 | h4
      · exact absurd h4 h0
      · rw [e, h4] at h; simp at h
    · refine ret1 (dp_shr (dp_var 0) (dp_neg (dp_var 1)) (by omega)) ?_
      unfold shI; rw [if_neg h0]
theorem cal_units (B : Bi mg) (D : Df K mg "units" "units" (top 18) ["ins"]) : Cal P w K mg base "units" 1 ["ins"] (spS K S_units) := by
  refine cal_S0 (N := ["ins", "i", "k"]) D sc_18 (by rintro svs O post ⟨n, _, rfl, _⟩; rfl) (by decide) (fun f cdv A outer s H E hr svs O post h => ?_)
  obtain ⟨n, hn, rfl, hpost⟩ := h
  show DS _ _ [.dat (.int n), .un, .un] _ _ _
  have hz : (List.range n).length ≤ 1000000 := by rw [List.length_range]; omega
  refine ds_ret (de_own (ds := (unitRows n).map encT) (lc [("i", 1)] (List.range n) (fun i => .int i) (fun i => encT (unitRow n i)) (fun i => [(1, .int i)]) ?_ (fun i _ s H C cl fp => dgn 1) (fun i hi s H C cl fp => ?_) ?_ hz) ?_)
  · rw [rng_enc]; exact di_rng1 rfl B.range (dp_var 0) (by simp) (by omega) (by omega)
  · refine dp_tupL B (lcp [("k", 2)] (List.range n) (fun i => .int i) (fun k => .int (if k = i then 1 else 0)) (fun k => [(2, .int k)]) ?_ (fun k _ s H C cl fp => dgn 2) (fun k hk s H C cl fp => ?_) ?_ hz)
    · rw [rng_enc]; exact di_rng1 rfl B.range (dp_var 0) (by simp) (by omega) (by omega)
    · exact (dp_intB B (dp_eqI (dp_var 2) (dp_var 1))).is (by simp; split <;> split <;> first | rfl | omega)
    · unfold unitRow; simp
  · unfold unitRows; simp
  · exact hpost
theorem cal_part (B : Bi mg) (far : GI mg "FAR_SHIFT" 4000) (c1 : Cal P w K mg base "is_whole" 1 ["thing"] (spP K R_whole)) (c2 : Cal P w K mg base "shifted" 1 ["number", "shift"] (spP K R_shifted)) (D : Df K mg "part_numbers" "part_numbers" (top 19) ["told", "thing", "shift"]) : Cal P w K mg base "part_numbers" 2 ["told", "thing", "shift"] (spP K R_part) := by
  refine cal_P (N := ["told", "thing", "shift", "found", "number"]) D sc_19 (by rintro ds d ⟨R, a, s, rfl, _⟩; rfl) (by decide) (fun f cdv A outer s H E hr ds d h => ?_)
  obtain ⟨R, a, s, rfl, h1, ⟨h2, h3⟩, h4, h5, rfl⟩ := h
  show DS _ _ [.dat (encTs R), .dat (.int a), .dat (.int s), .un, .un] [] _ _
  obtain ⟨z1, z2⟩ := h5.get (a := a)
  refine if1 (dt_w (dw_or (dt_not (dt_val (dp_call c1 hr rfl (da_cons (dp_var 1) da_nil) ⟨_, rfl, rfl⟩))) fun _ => dw_or1 (dt_not (dt_chain op_le op_lt dp_int (dp_var 1) (dp_len B (dp_var 0)) rd_IB rd_IB)))) (fun h => ?_) (fun _ => ?_)
  · simp at h; omega
  refine if1 (dt_w (dw_or (dt_not (dt_val (dp_call c1 hr rfl (da_cons (dp_var 2) da_nil) ⟨_, rfl, rfl⟩))) fun _ => dw_or1 (dt_not (dt_chain op_le op_le (dp_neg (dp_globI far)) (dp_var 2) (dp_globI far) rd_IB rd_IB)))) (fun h => ?_) (fun _ => ?_)
  · simp at h; omega
  refine setL 3 [("number", 4)] (R.getD a []) .int (fun x => .int (shI x s)) (fun x => [(4, .int x)]) (di_tup (dp_ixL (dp_var 0) (dp_var 1) (encTs_at h1))) (fun x _ s H C cl fp => dgn 4) (fun x hx s H C cl fp => ?_) ?_ (by omega)
  · exact dp_call c2 hr rfl (da_cons (dp_var 4) (da_cons (dp_var 2) da_nil)) ⟨x, _, rfl, ⟨h2, h3⟩, Nat.le_trans (z2 x hx) (Nat.pow_le_pow_right (by decide) (show 240060 ≤ 1000000 by omega)), h4 x hx, rfl⟩
  refine if1 (dt_inL dp_non (dp_var 3) rfl ints_flat) (fun h => ?_) (fun _ => ?_)
  · rw [none_in] at h; cases h
  refine ret1 (dp_tupL B (dp_var 3)) ?_
  unfold encT shR; simp
theorem zip_sg {less b : Bool} {g : Int → Int → Int} (hl : less = b) (hg : ∀ x y, g x y = sg b x y) : ∀ {xs ys : List Int}, ((xs.zip ys).map fun p => PyData.int (g p.1 p.2)) = (List.zipWith (sg less) xs ys).map PyData.int
  | [], _ => by simp
  | _ :: _, [] => by simp
  | x :: xs, y :: ys => by
    subst hl
    rw [List.zip_cons_cons, List.map_cons, List.zipWith_cons_cons, List.map_cons, zip_sg rfl hg, hg]
theorem deed_tuple (e : Deed) : encD e = .tuple [.str (wordOf e.less), .int e.a, .int e.s, .int e.b, .int e.t] := rfl
theorem word_in (b : Bool) : ([PyData.str "sum", PyData.str "less"].any fun y => eqF y (.str (wordOf b))) = true := by cases b <;> decide
theorem cal_deedn (B : Bi mg) (c1 : Cal P w K mg base "part_numbers" 2 ["told", "thing", "shift"] (spP K R_part)) (D : Df K mg "deed_numbers" "deed_numbers" (top 20) ["told", "deed"]) : Cal P w K mg base "deed_numbers" 3 ["told", "deed"] (spP K R_deedn) := by
  refine cal_P (N := ["told", "deed", "word", "a", "s", "b", "t", "one", "other", "first", "second"]) D sc_20 (by rintro ds d ⟨R, e, rfl, _⟩; rfl) (by decide) (fun f cdv A outer s H E hr ds d h => ?_)
  obtain ⟨R, e, rfl, ⟨h1, h2, h3, h4, h5, h6⟩, hz, rfl⟩ := h
  show DS _ _ [.dat (encTs R), .dat (encD e), .un, .un, .un, .un, .un, .un, .un, .un, .un] [] _ _
  refine if1 (dt_w (dw_or (dt_not (dt_val (dp_isi (p := true) B (dp_var 1) B.tuple PyProof.Rows.boot_tuple rfl (by decide +kernel)))) fun _ => dw_or1 (dt_neI (dp_lenT B (dp_var 1)) dp_int))) (fun h => by cases h) (fun _ => ?_)
  refine tup1 (dp_var 1) (dg_tup rfl (dgs_cons (dgn 2) (dgs_cons (dgn 3) (dgs_cons (dgn 4) (dgs_cons (dgn 5) (dgs_cons (dgn 6) dgs_nil)))))) ?_
  refine if1 (dt_w (dw_or (dt_not (dt_val (dp_isi (p := true) B (dp_var 2) B.str PyProof.Rows.boot_str rfl (by decide +kernel)))) fun _ => dw_or1 (dt_notInT (dp_var 2) (dp_tup (da_cons dp_str (da_cons dp_str da_nil))) rfl rfl))) (fun h => ?_) (fun _ => ?_)
  · rw [word_in] at h; cases h
  refine set1 7 (dp_call c1 hr rfl (da_cons (dp_var 0) (da_cons (dp_var 3) (da_cons (dp_var 4) da_nil))) ⟨R, e.a, e.s, rfl, h1, h3, h5, hz, rfl⟩) ?_
  refine set1 8 (dp_call c1 hr rfl (da_cons (dp_var 0) (da_cons (dp_var 5) (da_cons (dp_var 6) da_nil))) ⟨R, e.b, e.t, rfl, h2, h4, h6, hz, rfl⟩) ?_
  refine if1 (dt_w (dw_or (dt_isN (dp_var 7)) fun _ => dw_or1 (dt_isN (dp_var 8)))) (fun h => by cases h) (fun _ => ?_)
  obtain ⟨za, _⟩ := hz.get (a := e.a)
  obtain ⟨zb, _⟩ := hz.get (a := e.b)
  have zl : ((shR (R.getD e.a []) e.s).zip (shR (R.getD e.b []) e.t)).length ≤ 1000000 := by rw [List.length_zip]; unfold shR; rw [List.length_map, List.length_map]; omega
  have zz : (((shR (R.getD e.a []) e.s).map PyData.int).zip ((shR (R.getD e.b []) e.t).map PyData.int)).map (fun p => PyData.tuple [p.1, p.2]) = ((shR (R.getD e.a []) e.s).zip (shR (R.getD e.b []) e.t)).map fun p => PyData.tuple [.int p.1, .int p.2] := by
    rw [List.zip_map, List.map_map]; rfl
  refine if1 (dt_eqS (dp_var 2) dp_str) (fun h => ?_) (fun h => ?_)
  · have hl : e.less = false := by
      cases q : e.less with
      | false => rfl
      | true => rw [q] at h; exact absurd h (by decide)
    refine ret1 (dp_tupL B (lcp [("first", 9), ("second", 10)] ((shR (R.getD e.a []) e.s).zip (shR (R.getD e.b []) e.t)) (fun p => .tuple [.int p.1, .int p.2]) (fun p => .int (p.1 + p.2)) (fun p => [(9, .int p.1), (10, .int p.2)]) ?_ (fun p _ s H C cl fp => dg_tup rfl (dgs_cons (dgn 9) (dgs_cons (dgn 10) dgs_nil))) (fun p _ s H C cl fp => ?_) rfl zl)) ?_
    · rw [← zz]; exact di_zip2 B (dp_var 7) (dp_var 8) (.tup _) (.tup _)
    · exact dp_add (dp_var 9) (dp_var 10)
    · exact congrArg SV.dat (congrArg PyData.tuple (zip_sg hl (fun _ _ => by unfold sg; rfl)))
  · have hl : e.less = true := by
      cases q : e.less with
      | true => rfl
      | false => rw [q] at h; exact absurd h (by decide)
    refine ret1 (dp_tupL B (lcp [("first", 9), ("second", 10)] ((shR (R.getD e.a []) e.s).zip (shR (R.getD e.b []) e.t)) (fun p => .tuple [.int p.1, .int p.2]) (fun p => .int (p.1 - p.2)) (fun p => [(9, .int p.1), (10, .int p.2)]) ?_ (fun p _ s H C cl fp => dg_tup rfl (dgs_cons (dgn 9) (dgs_cons (dgn 10) dgs_nil))) (fun p _ s H C cl fp => ?_) rfl zl)) ?_
    · rw [← zz]; exact di_zip2 B (dp_var 7) (dp_var 8) (.tup _) (.tup _)
    · exact dp_sub (dp_var 9) (dp_var 10)
    · exact congrArg SV.dat (congrArg PyData.tuple (zip_sg hl (fun _ _ => by unfold sg; rfl)))
theorem sc_22 : FnScope ["ins", "deeds", "told", "deed", "found"] ["ins", "deeds"] (defScope (top 22)) := ⟨rfl, rfl, rfl, by decide +kernel, rfl, by decide +kernel, by decide +kernel⟩
theorem sc_23 : FnScope ["ins", "deeds", "outs", "told", "k"] ["ins", "deeds", "outs"] (defScope (top 23)) := ⟨rfl, rfl, rfl, by decide +kernel, rfl, by decide +kernel, by decide +kernel⟩
theorem sc_24 : FnScope ["ins", "deeds", "outs", "found"] ["ins", "deeds", "outs"] (defScope (top 24)) := ⟨rfl, rfl, rfl, by decide +kernel, rfl, by decide +kernel, by decide +kernel⟩
theorem sc_25 : FnScope ["web"] ["web"] (defScope (top 25)) := ⟨rfl, rfl, rfl, by decide +kernel, rfl, by decide +kernel, by decide +kernel⟩
theorem sc_26 : FnScope ["web", "told", "out"] ["web"] (defScope (top 26)) := ⟨rfl, rfl, rfl, by decide +kernel, rfl, by decide +kernel, by decide +kernel⟩
theorem sc_27 : FnScope ["web", "ins", "deeds", "outs", "found", "k", "word", "a", "s", "b", "t", "sign", "thing", "shift"] ["web"] (defScope (top 27)) := ⟨rfl, rfl, rfl, by decide +kernel, rfl, by decide +kernel, by decide +kernel⟩

theorem dot3 (o : Out) : [PyData.int o.thing, .int o.shift, .int o.sign] = [(o.thing : Int), o.shift, o.sign].map PyData.int := rfl
theorem out_pair {o : Out} : (.tuple [PyData.int o.thing, .int o.shift, .int o.sign] : PyData) = .tuple [.int 0, .int 0, .int 0] ↔ o = noOut := by
  obtain ⟨a, b, c⟩ := o
  simp [noOut]
theorem outRow_no {R : List Row} : outRow R noOut = (R.getD 0 []).map fun _ => 0 := by
  unfold outRow noOut shR; rw [List.map_map]
  exact List.map_congr_left fun x _ => by simp
theorem outRow_some {R : List Row} {o : Out} : outRow R o = (shR (R.getD o.thing []) o.shift).map (o.sign * ·) := rfl
theorem sign_in {s : Int} (h : s = 1 ∨ s = -1) : ([PyData.int 1, PyData.int (-1)].any fun y => eqF y (.int s)) = true := by
  rcases h with h | h <;> subst h <;> decide
theorem cal_nout (B : Bi mg) (c0 : Cal P w K mg base "is_whole" 1 ["thing"] (spP K R_whole)) (c1 : Cal P w K mg base "part_numbers" 2 ["told", "thing", "shift"] (spP K R_part)) (D : Df K mg "number_of_out" "number_of_out" (top 21) ["told", "out"]) : Cal P w K mg base "number_of_out" 3 ["told", "out"] (spP K R_nout) := by
  refine cal_P (N := ["told", "out", "thing", "shift", "sign", "found", "part", "number"]) D sc_21 (by rintro ds d ⟨R, e, rfl, _⟩; rfl) (by decide) (fun f cdv A outer s H E hr ds d h => ?_)
  obtain ⟨R, o, rfl, ho, hz, h0, rfl⟩ := h
  show DS _ _ [.dat (encTs R), .dat (.tuple [.int o.thing, .int o.shift, .int o.sign]), .un, .un, .un, .un, .un, .un] [] _ _
  refine if1 (dt_w (dw_or (dt_not (dt_val (dp_isi (p := true) B (dp_var 1) B.tuple PyProof.Rows.boot_tuple rfl (by decide +kernel)))) fun _ => dw_or (dt_neI (dp_lenT B (dp_var 1)) dp_int) fun _ => dw_or1 (dt_not (dt_val (dp_all (ns := [true, true, true]) B (lcp [("part", 6)] [(o.thing : Int), o.shift, o.sign] .int (fun _ => .bool true) (fun x => [(6, .int x)]) (di_tup (dp_var 1)) (fun x _ s H C cl fp => dgn 6) (fun x _ s H C cl fp => ?_) rfl)))))) (fun h => by cases h) (fun _ => ?_)
  · exact dp_call c0 (hr.mono (by decide)) rfl (da_cons (dp_var 6) da_nil) ⟨x, rfl, rfl⟩
  refine if1 (dt_eqDec (o = noOut) 2 2 hr.units (dp_var 1) (dp_tup (da_cons dp_int (da_cons dp_int (da_cons dp_int da_nil)))) (by simp [pl, plAll]) (by simp [pl, plAll]) out_pair) (fun h => ?_) (fun h => ?_)
  · have h : o = noOut := of_decide_eq_true h
    refine ret1 (dp_tupL B (lcp [("number", 7)] (R.getD 0 []) .int (fun _ => .int 0) (fun x => [(7, .int x)]) (di_tup (dp_ixL (dp_var 0) dp_int (encTs_at (a := 0) h0))) (fun x _ s H C cl fp => dgn 7) (fun x _ s H C cl fp => ?_) rfl (by have := (hz.get (a := 0)).1; omega))) ?_
    · exact dp_int
    · rw [h, outRow_no]; unfold encT; rw [List.map_map]; rfl
  · have h : ¬ o = noOut := of_decide_eq_false h
    obtain ⟨h1, h2, h3, h4⟩ := ho.resolve_left h
    refine tup1 (dp_var 1) (dg_tup rfl (dgs_cons (dgn 2) (dgs_cons (dgn 3) (dgs_cons (dgn 4) dgs_nil)))) ?_
    refine set1 5 (dp_call c1 hr rfl (da_cons (dp_var 0) (da_cons (dp_var 2) (da_cons (dp_var 3) da_nil))) ⟨R, o.thing, o.shift, rfl, h1, h2, h3, hz, rfl⟩) ?_
    refine if1 (dt_w (dw_or (dt_notInT (dp_var 4) (dp_tup (da_cons dp_int (da_cons (dp_neg dp_int) da_nil))) rfl rfl) fun _ => dw_or1 (dt_isN (dp_var 5)))) (fun h => ?_) (fun _ => ?_)
    · rw [sign_in h4] at h; cases h
    · refine ret1 (dp_tupL B (lcp [("number", 7)] (shR (R.getD o.thing []) o.shift) .int (fun x => .int (o.sign * x)) (fun x => [(7, .int x)]) (di_tup (dp_var 5)) (fun x _ s H C cl fp => dgn 7) (fun x hx s H C cl fp => ?_) rfl (by unfold shR; rw [List.length_map]; have := (hz.get (a := o.thing)).1; omega))) ?_
      · refine dp_mul (dp_var 4) (dp_var 7) ?_
        obtain ⟨y, hy, rfl⟩ := List.mem_map.mp hx
        have hb := shI_le (S := 4000) ((hz.get (a := o.thing)).2 y hy) h2.2
        exact mulx_ok (a := 2) (b := 244061) (by rcases h4 with h4 | h4 <;> rw [h4] <;> decide) (pow_lt hb) (by decide)
      · rw [outRow_some]; unfold encT; rw [List.map_map]; rfl

theorem lf_ints {r : Row} : lfs (r.map .int) = true := by
  induction r with
  | nil => rfl
  | cons x r ih => rw [List.map_cons, lfs, ih]; rfl
theorem lf_encT {r : Row} : lf (encT r) = true := by unfold encT lf; exact lf_ints
theorem get_map {α β : Type} {f : α → β} {l : List α} {i : Nat} {x : β} (h : (l.map f)[i]? = some x) : ∃ a, l[i]? = some a ∧ x = f a := by
  rw [List.getElem?_map] at h
  cases e : l[i]? with
  | none => rw [e] at h; cases h
  | some a => rw [e] at h; cases h; exact ⟨a, rfl, rfl⟩
theorem get_lt {α : Type} {l : List α} {i : Nat} {x : α} (h : l[i]? = some x) : i < l.length := (List.getElem?_eq_some_iff.mp h).1
theorem cal_told (c0 : Cal P w K mg base "units" 1 ["ins"] (spS K S_units)) (c1 : Cal P w K mg base "deed_numbers" 3 ["told", "deed"] (spP K R_deedn)) (D : Df K mg "told_numbers" "told_numbers" (top 22) ["ins", "deeds"]) : Cal P w K mg base "told_numbers" 4 ["ins", "deeds"] (spP K R_told) := by
  refine cal_P (N := ["ins", "deeds", "told", "deed", "found"]) D sc_22 (by rintro ds d ⟨R, e, rfl, _⟩; rfl) (by decide) (fun f cdv A outer s H E hr ds d h => ?_)
  obtain ⟨n, es, rfl, hok, hn, hl, rfl⟩ := h
  show DS _ _ [.dat (.int n), .dat (.list (es.map encD)), .un, .un, .un] [] _ _
  refine setE 2 (de_call c0 (hr.mono (by decide)) rfl (dae_pure (da_cons (dp_var 0) da_nil) ⟨n, hn, rfl, ?_⟩))
  show DS _ _ _ [.lst (((unitRows n).map encT).map .dat)] _ _
  refine ds_for (die_pure (di_list (dp_var 1)) ⟨fun i ρ' O' => ∃ x y, ρ' = [.dat (.int n), .dat (.list (es.map encD)), .ptr 0, x, y] ∧ O' = [.lst (((grow stepR (unitRows n) (es.take i)).map encT).map .dat)], ⟨_, _, rfl, rfl⟩, ?_, ?_⟩)
  · rintro i x ρ' O' hx ⟨u, v, rfl, rfl⟩
    obtain ⟨e, he, rfl⟩ := get_map hx
    refine ⟨[(3, encD e)], dgn 3, nrm ?_⟩
    have hD := okDs_at hok he
    have hS : Sz (grow stepR (unitRows n) (es.take i)) := sz_rows (okDs_take hok i) hn (by rw [List.length_take]; omega)
    refine setE 4 (de_borrow [none, none, some (encTs (grow stepR (unitRows n) (es.take i))), some (encD e), none] (.no (.no (.yes (.ptr rfl vds_map) (.yes (.dat _) (.no .nil))))) (dp_call c1 hr rfl (da_cons (dp_var 2) (da_cons (dp_var 3) da_nil)) ⟨_, e, rfl, hD, hS, rfl⟩) lf_encT ?_)
    refine if1 (dt_isN (dp_var 4)) (fun h => by cases h) (fun _ => ?_)
    refine ds_expr (de_append (de_var 2 rfl ⟨0, _, rfl, rfl, de_var 4 rfl ⟨_, rfl, ?_, ds_nil ⟨_, _, rfl, ?_⟩⟩⟩))
    · rw [List.length_map, List.length_map, grow_len, unitRows_len, List.length_take]; omega
    · rw [grow_take _ he]; simp
  · rintro ρ' O' ⟨u, v, rfl, rfl⟩
    rw [List.length_map, List.take_length]
    exact ds_freeze 0 2 rfl rfl (ret1 (dp_var 2) rfl)

theorem Web.ok.sz {x : Web} (h : x.ok) : Sz x.rows := sz_rows h.ds h.i2 h.dl
theorem Web.ok.pos {x : Web} (h : x.ok) : 0 < x.rows.length := by unfold Web.rows; rw [rows_len]; have := h.i1; omega
theorem cal_faults (B : Bi mg) (g1 : GI mg "MOST_INS" 12) (g2 : GI mg "MOST_OUTS" 12) (c0 : Cal P w K mg base "is_whole" 1 ["thing"] (spP K R_whole)) (c1 : Cal P w K mg base "told_numbers" 4 ["ins", "deeds"] (spP K R_told)) (c2 : Cal P w K mg base "number_of_out" 3 ["told", "out"] (spP K R_nout)) (D : Df K mg "faults" "faults" (top 23) ["ins", "deeds", "outs"]) : Cal P w K mg base "faults" 5 ["ins", "deeds", "outs"] (spP K R_faults) := by
  refine cal_P (N := ["ins", "deeds", "outs", "told", "k"]) D sc_23 (by rintro ds d ⟨x, _, rfl, _⟩; rfl) (by decide) (fun f cdv A outer s H E hr ds d h => ?_)
  obtain ⟨x, hok, rfl, rfl⟩ := h
  show DS _ _ [.dat (.int x.ins), .dat (.list (x.deeds.map encD)), .dat (.list (x.outs.map encO)), .un, .un] [] _ _
  have i1 := hok.i1
  have i2 := hok.i2
  refine if1 (dt_w (dw_or (dt_not (dt_val (dp_call c0 (hr.mono (by decide)) rfl (da_cons (dp_var 0) da_nil) ⟨_, rfl, rfl⟩))) fun _ => dw_or1 (dt_not (dt_chain op_le op_le dp_int (dp_var 0) (dp_globI g1) rd_IB rd_IB)))) (fun h => ?_) (fun _ => ?_)
  · simp at h; omega
  refine if1 (dt_w (dw_or (dt_not (dt_val (dp_isi (p := true) B (dp_var 1) B.list PyProof.Rows.boot_list rfl (by decide +kernel)))) fun _ => dw_or1 (dt_not (dt_val (dp_isi (p := true) B (dp_var 2) B.list PyProof.Rows.boot_list rfl (by decide +kernel)))))) (fun h => by cases h) (fun _ => ?_)
  refine set1 3 (dp_call c1 hr rfl (da_cons (dp_var 0) (da_cons (dp_var 1) da_nil)) ⟨x.ins, x.deeds, rfl, hok.ds, i2, hok.dl, rfl⟩) ?_
  refine if1 (dt_lt (dp_len B (dp_var 3)) (dp_add (dp_var 0) (dp_len B (dp_var 1)))) (fun h => ?_) (fun _ => ?_)
  · simp only [List.length_map, rows_len, decide_eq_true_eq] at h; omega
  have ol := hok.ol
  refine ds_for (die_pure (di_rng1 (m := x.outs.length) rfl B.range (dp_len B (dp_var 2)) (by simp) (by omega) (by simp)) ⟨fun i ρ' O' => ∃ y, ρ' = [.dat (.int x.ins), .dat (.list (x.deeds.map encD)), .dat (.list (x.outs.map encO)), .dat (encTs x.rows), y] ∧ O' = [], ⟨_, rfl, rfl⟩, ?_, ?_⟩)
  · rintro i d ρ' O' hx ⟨y, rfl, rfl⟩
    obtain ⟨hi, rfl⟩ := rngD_get hx
    refine ⟨[(4, _)], dgn 4, nrm ?_⟩
    have ho := List.getElem?_eq_getElem hi
    refine if1 (dt_w (dw_or (dt_ge (dp_var 4) (dp_globI g2)) fun _ => dw_or1 (dt_isN (dp_call c2 (hr.mono (by decide)) (by rfl) (da_cons (dp_var 3) (da_cons (dp_ixL (dp_var 2) (dp_var 4) (d := encO x.outs[i]) (by rw [Int.zero_add]; exact atI_nat (by rw [List.getElem?_map, ho]; rfl))) da_nil)) ⟨x.rows, x.outs[i], rfl, hok.os _ (List.getElem_mem hi), hok.sz, hok.pos, rfl⟩)))) (fun h => ?_) (fun _ => ds_nil ⟨_, rfl, rfl⟩)
    have e1 : isNon (encT (outRow x.rows x.outs[i])) = false := rfl
    rw [e1, Bool.or_false, decide_eq_true_eq] at h
    omega
  · rintro ρ' O' ⟨y, rfl, rfl⟩
    exact ret1 (dp_lst da_nil) rfl
theorem cal_webof (B : Bi mg) (c1 : Cal P w K mg base "faults" 5 ["ins", "deeds", "outs"] (spP K R_faults)) (D : Df K mg "web_of" "web_of" (top 24) ["ins", "deeds", "outs"]) : Cal P w K mg base "web_of" 6 ["ins", "deeds", "outs"] (spP K R_webof) := by
  refine cal_P (N := ["ins", "deeds", "outs", "found"]) D sc_24 (by rintro ds d ⟨x, _, rfl, _⟩; rfl) (by decide) (fun f cdv A outer s H E hr ds d h => ?_)
  obtain ⟨x, hok, rfl, rfl⟩ := h
  show DS _ _ [.dat (.int x.ins), .dat (.list (x.deeds.map encD)), .dat (.list (x.outs.map encO)), .un] [] _ _
  refine set1 3 (dp_call c1 hr rfl (da_cons (dp_var 0) (da_cons (dp_var 1) (da_cons (dp_var 2) da_nil))) ⟨x, hok, rfl, rfl⟩) ?_
  refine if1 (dt_neT 1 hr.units (dp_var 3) (dp_lst da_nil) rfl) (fun h => by cases h) (fun _ => ?_)
  exact ret1 (dp_tup (da_cons (dp_var 0) (da_cons (dp_list B (dp_var 1)) (da_cons (dp_list B (dp_var 2)) da_nil)))) rfl
theorem webT {x : Web} : encW x = .tuple [.int x.ins, .list (x.deeds.map encD), .list (x.outs.map encO)] := rfl
theorem cal_numbers (c1 : Cal P w K mg base "told_numbers" 4 ["ins", "deeds"] (spP K R_told)) (D : Df K mg "numbers" "numbers" (top 25) ["web"]) : Cal P w K mg base "numbers" 5 ["web"] (spP K R_numbers) := by
  refine cal_P (N := ["web"]) D sc_25 (by rintro ds d ⟨x, _, rfl, _⟩; rfl) (by decide) (fun f cdv A outer s H E hr ds d h => ?_)
  obtain ⟨x, hok, rfl, rfl⟩ := h
  show DS _ _ [.dat (encW x)] [] _ _
  exact ret1 (dp_call c1 hr rfl (da_cons (dp_ixT (dp_var 0) dp_int rfl) (da_cons (dp_ixT (dp_var 0) dp_int rfl) da_nil)) ⟨x.ins, x.deeds, rfl, hok.ds, hok.i2, hok.dl, rfl⟩) rfl
theorem cal_outnumbers (c1 : Cal P w K mg base "numbers" 5 ["web"] (spP K R_numbers)) (c2 : Cal P w K mg base "number_of_out" 3 ["told", "out"] (spP K R_nout)) (D : Df K mg "out_numbers" "out_numbers" (top 26) ["web"]) : Cal P w K mg base "out_numbers" 6 ["web"] (spP K R_outnumbers) := by
  refine cal_P (N := ["web", "told", "out"]) D sc_26 (by rintro ds d ⟨x, _, rfl, _⟩; rfl) (by decide) (fun f cdv A outer s H E hr ds d h => ?_)
  obtain ⟨x, hok, rfl, rfl⟩ := h
  show DS _ _ [.dat (encW x), .un, .un] [] _ _
  refine set1 1 (dp_call c1 hr rfl (da_cons (dp_var 0) da_nil) ⟨x, hok, rfl, rfl⟩) ?_
  refine ret1 (lcp [("out", 2)] x.outs encO (fun o => encT (outRow x.rows o)) (fun o => [(2, encO o)]) (di_list (dp_ixT (dp_var 0) dp_int rfl)) (fun x _ s H C cl fp => dgn 2) (fun o ho s H C cl fp => ?_) rfl (by have := hok.ol; omega)) ?_
  · exact dp_call c2 (hr.mono (by decide)) rfl (da_cons (dp_var 1) (da_cons (dp_var 2) da_nil)) ⟨x.rows, o, rfl, hok.os o ho, hok.sz, hok.pos, rfl⟩
  · show SV.dat _ = _
    unfold encTs Web.outRows; rw [List.map_map]; rfl
end
end SS
set_option maxHeartbeats 4000000
/-! The walks, two: arrows, runs.py, widths.py. -/
namespace SS
open PySem PySem.Spec PyProof.Rows L2
def encI (v : List Int) : PyData := .list (v.map .int)
def R_arrows (ds : List PyData) (d : PyData) : Prop := ∃ x : Web, x.ok ∧ ds = [encW x] ∧ d = .list (x.arrs.map encA)
def Vl (x : Web) (v : List Int) : Prop := v.length = x.ins ∧ ∀ y ∈ v, y.natAbs ≤ 2 ^ 200
def R_run (ds : List PyData) (d : PyData) : Prop := ∃ (x : Web) (v : List Int), x.ok ∧ Vl x v ∧ ds = [encW x, encI v] ∧ d = encI (x.vals v)
def R_runouts (ds : List PyData) (d : PyData) : Prop := ∃ (x : Web) (v : List Int), x.ok ∧ Vl x v ∧ ds = [encW x, encI v] ∧ d = encI (x.outVals v)
theorem lf_encA {a : Arr} : lf (encA a) = true := rfl
theorem ints_at {v : List Int} {a : Nat} (h : a < v.length) : atI (v.map PyData.int) (a : Int) = some (.int (v.getD a 0)) := atI_nat (by rw [List.getElem?_map, getD_at (z := 0) h]; rfl)
theorem dat_map {α : Type} {f : α → PyData} {l : List α} {x : α} : (l.map f).map SV.dat ++ [.dat (f x)] = ((l ++ [x]).map f).map SV.dat := by simp
section
variable {P : Program} {w : World} {K : PySem.W.Frag} {mg : Str → Option Value} {base : Heap}
theorem sc_80 : FnScope ["web", "values", "found", "word", "a", "s", "b", "t", "one", "other"] ["web", "values"] (defScope (top 80)) := ⟨rfl, rfl, rfl, by decide +kernel, rfl, by decide +kernel, by decide +kernel⟩
theorem sc_81 : FnScope ["web", "values", "found", "thing", "shift", "sign"] ["web", "values"] (defScope (top 81)) := ⟨rfl, rfl, rfl, by decide +kernel, rfl, by decide +kernel, by decide +kernel⟩
theorem cal_run (B : Bi mg) (c1 : Cal P w K mg base "shifted" 1 ["number", "shift"] (spP K R_shifted)) (D : Df K mg "run" "run" (top 80) ["web", "values"]) : Cal P w K mg base "run" 2 ["web", "values"] (spP K R_run) := by
  refine cal_P (N := ["web", "values", "found", "word", "a", "s", "b", "t", "one", "other"]) D sc_80 (by rintro ds d ⟨x, v, _, _, rfl, _⟩; rfl) (by decide) (fun f cdv A outer s H E hr ds d h => ?_)
  obtain ⟨x, v, hok, ⟨hv, hb⟩, rfl, rfl⟩ := h
  show DS _ _ [.dat (encW x), .dat (encI v), .un, .un, .un, .un, .un, .un, .un, .un] [] _ _
  refine if1 (dt_neI (dp_len B (dp_var 1)) (dp_ixT (dp_var 0) dp_int rfl)) (fun h => ?_) (fun _ => ?_)
  · rw [List.length_map, hv] at h; simp at h
  refine setE 2 (de_own (df_list rfl B.list PyProof.Rows.boot_list (dp_var 1)) ?_)
  show DS _ _ _ [.lst ((v.map PyData.int).map .dat)] _ _
  refine ds_for (die_pure (di_list (dp_ixT (dp_var 0) dp_int rfl)) ⟨fun i ρ' O' => ∃ a b c d e f g, ρ' = [.dat (encW x), .dat (encI v), .ptr 0, a, b, c, d, e, f, g] ∧ O' = [.lst (((grow stepV v (x.deeds.take i)).map PyData.int).map .dat)], ⟨_, _, _, _, _, _, _, rfl, rfl⟩, ?_, ?_⟩)
  · rintro i y ρ' O' hx ⟨a, b, c, d, e, f, g, rfl, rfl⟩
    obtain ⟨e, he, rfl⟩ := get_map hx
    have hD := okDs_at hok.ds he
    have hlt := get_lt he
    have hL : (rows x.ins (x.deeds.take i)).length = x.ins + i := by rw [rows_len, List.length_take]; omega
    have hG : (grow stepV v (x.deeds.take i)).length = x.ins + i := by rw [grow_len, List.length_take]; omega
    have ha : e.a < x.ins + i := by have := hD.1; unfold rows at hL; omega
    have hbb : e.b < x.ins + i := by have := hD.2.1; unfold rows at hL; omega
    obtain ⟨va, na⟩ := deed_val hok.ds hok.i2 hok.dl hv hb (Nat.le_of_lt hlt) ha
    obtain ⟨vb, nb⟩ := deed_val hok.ds hok.i2 hok.dl hv hb (Nat.le_of_lt hlt) hbb
    have oa : okS ((grow stepV v (x.deeds.take i)).getD e.a 0) e.s := by rw [va]; exact okS_dot hD.2.2.2.2.1
    have ob : okS ((grow stepV v (x.deeds.take i)).getD e.b 0) e.t := by rw [vb]; exact okS_dot hD.2.2.2.2.2
    have big : 2 ^ (240064 + 200) ≤ 2 ^ 1000000 := Nat.pow_le_pow_right (by decide) (by omega)
    generalize hV : grow stepV v (x.deeds.take i) = V at *
    refine ⟨_, dg_tup rfl (dgs_cons (dgn 3) (dgs_cons (dgn 4) (dgs_cons (dgn 5) (dgs_cons (dgn 6) (dgs_cons (dgn 7) dgs_nil))))), nrm ?_⟩
    refine setE 8 (de_borrow [none, none, some (encI V), none, some (.int e.a), some (.int e.s), some (.int e.b), some (.int e.t), none, none] (.no (.no (.yes (.ptr rfl vds_map) (.no (.yes (.dat _) (.yes (.dat _) (.yes (.dat _) (.yes (.dat _) (.no (.no .nil)))))))))) (dp_call c1 hr rfl (da_cons (dp_ixL (dp_var 2) (dp_var 4) (ints_at (by omega))) (da_cons (dp_var 5) da_nil)) ⟨_, _, rfl, hD.2.2.1, Nat.le_trans na big, oa, rfl⟩) rfl ?_)
    refine setE 9 (de_borrow [none, none, some (encI V), none, some (.int e.a), some (.int e.s), some (.int e.b), some (.int e.t), none, none] (.no (.no (.yes (.ptr rfl vds_map) (.no (.yes (.dat _) (.yes (.dat _) (.yes (.dat _) (.yes (.dat _) (.no (.no .nil)))))))))) (dp_call c1 hr rfl (da_cons (dp_ixL (dp_var 2) (dp_var 6) (ints_at (by omega))) (da_cons (dp_var 7) da_nil)) ⟨_, _, rfl, hD.2.2.2.1, Nat.le_trans nb big, ob, rfl⟩) rfl ?_)
    refine ds_if (mid := fun ρ' O' => ρ' = [.dat (encW x), .dat (encI v), .ptr 0, .dat (.str (wordOf e.less)), .dat (.int e.a), .dat (.int e.s), .dat (.int e.b), .dat (.int e.t), .dat (.int (shI (V.getD e.a 0) e.s)), .dat (.int (if e.less then -(shI (V.getD e.b 0) e.t) else shI (V.getD e.b 0) e.t))] ∧ O' = [.lst ((V.map PyData.int).map .dat)]) (dte_pure (dt_eqS (dp_var 3) dp_str) ⟨fun h => ?_, fun h => ?_⟩) ?_
    · have hl : e.less = true := by
        cases q : e.less with
        | true => rfl
        | false => rw [q] at h; exact absurd h (by decide)
      refine set1 9 (dp_neg (dp_var 9)) (ds_nil ?_)
      rw [hl]; exact ⟨rfl, rfl⟩
    · have hl : e.less = false := by
        cases q : e.less with
        | false => rfl
        | true => rw [q] at h; exact absurd h (by decide)
      refine ds_nil ?_
      rw [hl]; exact ⟨rfl, rfl⟩
    · rintro ρ' O' ⟨rfl, rfl⟩
      refine ds_expr (de_append (de_var 2 rfl ⟨0, _, rfl, rfl, de_pure (dp_add (dp_var 8) (dp_var 9)) ⟨_, rfl, ?_, ds_nil ⟨_, _, _, _, _, _, _, rfl, ?_⟩⟩⟩))
      · rw [List.length_map, List.length_map, hG]; have := hok.dl; have := hok.i2; omega
      · rw [grow_take _ he, hV]
        show [Ow.lst _] = _
        rw [dat_map]
        unfold stepV sg
        cases e.less <;> simp [Int.sub_eq_add_neg]
  · rintro ρ' O' ⟨a, b, c, d, e, f, g, rfl, rfl⟩
    rw [List.length_map, List.take_length]
    exact ds_freeze 0 2 rfl rfl (ret1 (dp_var 2) rfl)

theorem out_val {x : Web} {v : List Int} {B : Nat} (h : x.ok) (hv : v.length = x.ins) (hb : ∀ y ∈ v, y.natAbs ≤ 2 ^ B) {o : Out} (ho : o ∈ x.outs) : o.thing < (x.vals v).length ∧ ((x.vals v).getD o.thing 0).natAbs ≤ 2 ^ (240064 + B) ∧ okS ((x.vals v).getD o.thing 0) o.shift ∧ (-4000 ≤ o.shift ∧ o.shift ≤ 4000) ∧ (o.sign = 0 ∨ o.sign = 1 ∨ o.sign = -1) := by
  have hl : (x.vals v).length = x.ins + x.deeds.length := by unfold Web.vals; rw [grow_len, hv]
  have hr : x.rows.length = x.ins + x.deeds.length := rows_len
  have key : ∀ a, a < x.ins + x.deeds.length → (x.vals v).getD a 0 = dot (x.rows.getD a []) v ∧ ((x.vals v).getD a 0).natAbs ≤ 2 ^ (240064 + B) := fun a ha => by
    have := deed_val h.ds h.i2 h.dl hv hb (Nat.le_refl _) ha
    rw [List.take_length] at this
    exact this
  rcases h.os o ho with q | ⟨h1, h2, h3, h4⟩
  · rw [q]
    have i1 := h.i1
    exact ⟨by rw [hl]; show 0 < _; omega, (key 0 (by omega)).2, .inl (Int.le_refl _), ⟨by decide, by decide⟩, .inl rfl⟩
  · have h1' : o.thing < x.ins + x.deeds.length := by rw [← hr]; exact h1
    obtain ⟨e, n⟩ := key _ h1'
    exact ⟨by rw [hl]; exact h1', n, by rw [e]; exact okS_dot h3, h2, h4.elim (fun q => .inr (.inl q)) fun q => .inr (.inr q)⟩
theorem cal_runouts (c1 : Cal P w K mg base "shifted" 1 ["number", "shift"] (spP K R_shifted)) (c2 : Cal P w K mg base "run" 2 ["web", "values"] (spP K R_run)) (D : Df K mg "run_outs" "run_outs" (top 81) ["web", "values"]) : Cal P w K mg base "run_outs" 3 ["web", "values"] (spP K R_runouts) := by
  refine cal_P (N := ["web", "values", "found", "thing", "shift", "sign"]) D sc_81 (by rintro ds d ⟨x, v, _, _, rfl, _⟩; rfl) (by decide) (fun f cdv A outer s H E hr ds d h => ?_)
  obtain ⟨x, v, hok, hV, rfl, rfl⟩ := h
  show DS _ _ [.dat (encW x), .dat (encI v), .un, .un, .un, .un] [] _ _
  refine set1 2 (dp_call c2 hr rfl (da_cons (dp_var 0) (da_cons (dp_var 1) da_nil)) ⟨x, v, hok, hV, rfl, rfl⟩) ?_
  refine ret1 (lcp [("thing", 3), ("shift", 4), ("sign", 5)] x.outs encO (fun o => .int (outV (x.vals v) o)) (fun o => [(3, .int o.thing), (4, .int o.shift), (5, .int o.sign)]) (di_list (dp_ixT (dp_var 0) dp_int rfl)) (fun o _ s H C cl fp => dg_tup rfl (dgs_cons (dgn 3) (dgs_cons (dgn 4) (dgs_cons (dgn 5) dgs_nil)))) (fun o ho s H C cl fp => ?_) rfl (by have := hok.ol; omega)) ?_
  · obtain ⟨h1, h2, h3, h4, h5⟩ := out_val hok hV.1 hV.2 ho
    have big : 2 ^ (240064 + 200) ≤ 2 ^ 1000000 := Nat.pow_le_pow_right (by decide) (by omega)
    refine dp_mul (dp_var 5) (dp_call c1 (hr.mono (by decide)) rfl (da_cons (dp_ixL (dp_var 2) (dp_var 3) (ints_at h1)) (da_cons (dp_var 4) da_nil)) ⟨_, _, rfl, h4, Nat.le_trans h2 big, h3, rfl⟩) ?_
    have hb := shI_le (S := 4000) h2 h4.2
    exact mulx_ok (a := 2) (b := 244265) (by rcases h5 with h5 | h5 | h5 <;> rw [h5] <;> decide) (pow_lt hb) (by decide)
  · show SV.dat _ = _
    unfold encI Web.outVals; rw [List.map_map]; rfl
theorem flat_len {α : Type} {f : Nat → List α} (h : ∀ k, (f k).length ≤ 2) : ∀ i, ((List.range i).map f).flatten.length ≤ 2 * i
  | 0 => by simp
  | i + 1 => by rw [flat_succ, List.length_append]; have := flat_len h i; have := h i; omega
theorem arrD_len {x : Web} (k : Nat) : (x.arrD k).length ≤ 2 := by unfold Web.arrD; split <;> simp
theorem arrO_len {x : Web} (k : Nat) : (x.arrO k).length ≤ 2 := by unfold Web.arrO; split; split <;> simp; simp
theorem cal_arrows (B : Bi mg) (D : Df K mg "arrows" "arrows" (top 27) ["web"]) : Cal P w K mg base "arrows" 1 ["web"] (spP K R_arrows) := by
  refine cal_P (N := ["web", "ins", "deeds", "outs", "found", "k", "word", "a", "s", "b", "t", "sign", "thing", "shift"]) D sc_27 (by rintro ds d ⟨x, _, rfl, _⟩; rfl) (by decide) (fun f cdv A outer s H E hr ds d h => ?_)
  obtain ⟨x, hok, rfl, rfl⟩ := h
  have hdl := hok.dl
  have hol := hok.ol
  show DS _ _ [.dat (.tuple [.int x.ins, .list (x.deeds.map encD), .list (x.outs.map encO)]), .un, .un, .un, .un, .un, .un, .un, .un, .un, .un, .un, .un, .un] [] _ _
  refine tup1 (dp_var 0) (dg_tup rfl (dgs_cons (dgn 1) (dgs_cons (dgn 2) (dgs_cons (dgn 3) dgs_nil)))) ?_
  refine setE 4 (de_nil ?_)
  show DS _ _ _ [.lst []] _ _
  refine ds_for (die_pure (di_rng1 (m := x.deeds.length) rfl B.range (dp_len B (dp_var 2)) (by simp) (by omega) (by simp)) ⟨fun i ρ' O' => ∃ a b c d e f g h i', ρ' = [.dat (encW x), .dat (.int x.ins), .dat (.list (x.deeds.map encD)), .dat (.list (x.outs.map encO)), .ptr 0, a, b, c, d, e, f, g, h, i'] ∧ O' = [.lst ((((List.range i).map x.arrD).flatten.map encA).map .dat)], ⟨_, _, _, _, _, _, _, _, _, rfl, rfl⟩, ?_, ?_⟩)
  · rintro i y ρ' O' hx ⟨a, b, c, d, e, f, g, h, i', rfl, rfl⟩
    obtain ⟨hi, rfl⟩ := rngD_get hx
    have he := List.getElem?_eq_getElem hi
    generalize hed : x.deeds[i] = ed at he
    refine ⟨[(5, _)], dgn 5, nrm ?_⟩
    refine tup1 (dp_ixL (dp_var 2) (dp_var 5) (d := encD ed) (by rw [Int.zero_add]; exact atI_nat (by rw [List.getElem?_map, he]; rfl))) (dg_tup rfl (dgs_cons (dgn 6) (dgs_cons (dgn 7) (dgs_cons (dgn 8) (dgs_cons (dgn 9) (dgs_cons (dgn 10) dgs_nil)))))) ?_
    refine set1 11 dp_int ?_
    refine ds_if (mid := fun ρ' O' => ρ' = [.dat (encW x), .dat (.int x.ins), .dat (.list (x.deeds.map encD)), .dat (.list (x.outs.map encO)), .ptr 0, .dat (.int (0 + (i : Nat))), .dat (.str (wordOf ed.less)), .dat (.int ed.a), .dat (.int ed.s), .dat (.int ed.b), .dat (.int ed.t), .dat (.int (sgn ed.less)), h, i'] ∧ O' = [.lst ((((List.range i).map x.arrD).flatten.map encA).map .dat)]) (dte_pure (dt_eqS (dp_var 6) dp_str) ⟨fun h => ?_, fun h => ?_⟩) ?_
    · have hl : ed.less = true := by
        cases q : ed.less with
        | true => rfl
        | false => rw [q] at h; exact absurd h (by decide)
      refine set1 11 (dp_neg dp_int) (ds_nil ?_)
      rw [hl]; exact ⟨rfl, rfl⟩
    · have hl : ed.less = false := by
        cases q : ed.less with
        | false => rfl
        | true => rw [q] at h; exact absurd h (by decide)
      refine ds_nil ?_
      rw [hl]; exact ⟨rfl, rfl⟩
    · rintro ρ' O' ⟨rfl, rfl⟩
      have hfl := flat_len (f := x.arrD) arrD_len i
      refine ds_expr (de_append (de_var 4 rfl ⟨0, _, rfl, rfl, de_pure (dp_tup (da_cons (dp_var 7) (da_cons (dp_add (dp_var 1) (dp_var 5)) (da_cons (dp_var 8) (da_cons dp_int da_nil))))) ⟨_, rfl, ?_, ?_⟩⟩))
      · simp only [List.length_map]; omega
      · refine ds_expr (de_append (de_var 4 rfl ⟨0, _, rfl, rfl, de_pure (dp_tup (da_cons (dp_var 9) (da_cons (dp_add (dp_var 1) (dp_var 5)) (da_cons (dp_var 10) (da_cons (dp_var 11) da_nil))))) ⟨_, rfl, ?_, ds_nil ⟨_, _, _, _, _, _, _, _, _, rfl, ?_⟩⟩⟩))
        · simp only [List.length_append, List.length_map, List.length_cons, List.length_nil]; omega
        · rw [flat_succ]
          have e2 : x.arrD i = [⟨ed.a, x.ins + i, ed.s, 1⟩, ⟨ed.b, x.ins + i, ed.t, sgn ed.less⟩] := by unfold Web.arrD; rw [he]
          rw [e2]
          show [Ow.lst _] = _
          simp [encA]
  · rintro ρ' O' ⟨a, b, c, d, e, f, g, h, i', rfl, rfl⟩
    have hrl : (rngD 0 x.deeds.length).length = x.deeds.length := by unfold rngD; simp
    rw [hrl]
    have hfd := flat_len (f := x.arrD) arrD_len x.deeds.length
    refine ds_for (die_pure (di_rng1 (m := x.outs.length) rfl B.range (dp_len B (dp_var 3)) (by simp) (by omega) (by simp)) ⟨fun i ρ' O' => ∃ a b c d e f g h i', ρ' = [.dat (encW x), .dat (.int x.ins), .dat (.list (x.deeds.map encD)), .dat (.list (x.outs.map encO)), .ptr 0, a, b, c, d, e, f, g, h, i'] ∧ O' = [.lst (((((List.range x.deeds.length).map x.arrD).flatten ++ ((List.range i).map x.arrO).flatten).map encA).map .dat)], ⟨_, _, _, _, _, _, _, _, _, rfl, by simp⟩, ?_, ?_⟩)
    · rintro i y ρ' O' hx ⟨a, b, c, d, e, f, g, h, i', rfl, rfl⟩
      obtain ⟨hi, rfl⟩ := rngD_get hx
      have he := List.getElem?_eq_getElem hi
      generalize hed : x.outs[i] = o at he
      have hfl := flat_len (f := x.arrO) arrO_len i
      refine ⟨[(5, _)], dgn 5, nrm ?_⟩
      refine tup1 (dp_ixL (dp_var 3) (dp_var 5) (d := encO o) (by rw [Int.zero_add]; exact atI_nat (by rw [List.getElem?_map, he]; rfl))) (dg_tup rfl (dgs_cons (dgn 12) (dgs_cons (dgn 13) (dgs_cons (dgn 11) dgs_nil)))) ?_
      have e2 : x.arrO i = if o.sign = 0 then [] else [⟨o.thing, x.ins + x.deeds.length + i, o.shift, o.sign⟩] := by unfold Web.arrO; rw [he]
      refine ds_if (mid := fun ρ' O' => (∃ a b c d e f g h i', ρ' = [.dat (encW x), .dat (.int x.ins), .dat (.list (x.deeds.map encD)), .dat (.list (x.outs.map encO)), .ptr 0, a, b, c, d, e, f, g, h, i']) ∧ O' = [.lst (((((List.range x.deeds.length).map x.arrD).flatten ++ ((List.range (i + 1)).map x.arrO).flatten).map encA).map .dat)]) (dte_pure (dt_neI (dp_var 11) dp_int) ⟨fun h => ?_, fun h => ?_⟩) ?_
      · have hs : ¬ o.sign = 0 := by simpa using h
        refine ds_expr (de_append (de_var 4 rfl ⟨0, _, rfl, rfl, de_pure (dp_tup (da_cons (dp_var 12) (da_cons (dp_add (dp_add (dp_var 1) (dp_len B (dp_var 2))) (dp_var 5)) (da_cons (dp_var 13) (da_cons (dp_var 11) da_nil))))) ⟨_, rfl, ?_, ds_nil ⟨⟨_, _, _, _, _, _, _, _, _, rfl⟩, ?_⟩⟩⟩))
        · simp only [List.length_append, List.length_map]; omega
        · rw [flat_succ, e2, if_neg hs]
          show [Ow.lst _] = _
          simp [encA]
      · have hs : o.sign = 0 := by simpa using h
        refine ds_nil ⟨⟨_, _, _, _, _, _, _, _, _, rfl⟩, ?_⟩
        rw [flat_succ, e2, if_pos hs, List.append_nil]
      · rintro ρ' O' ⟨⟨a, b, c, d, e, f, g, h, i', rfl⟩, rfl⟩
        exact ds_nil ⟨_, _, _, _, _, _, _, _, _, rfl, rfl⟩
    · rintro ρ' O' ⟨a, b, c, d, e, f, g, h, i', rfl, rfl⟩
      have hrl : (rngD 0 x.outs.length).length = x.outs.length := by unfold rngD; simp
      rw [hrl]
      exact ds_freeze 0 4 rfl rfl (ret1 (dp_var 4) rfl)
end
end SS
set_option maxHeartbeats 4000000
/-! Texts as code points: what webs are written as; finding, cutting, numbers. -/
namespace SS
open PySem PySem.Spec PyProof.Rows L2
open SX (S)
abbrev nl := TL.numL
def partL (a : Nat) (s : Int) : List Nat := nl a ++ (if s > 0 then 60 :: 60 :: nl s.toNat else if s < 0 then 62 :: 62 :: nl (-s).toNat else [])
def deedL (d : Deed) : List Nat := partL d.a d.s ++ (32 :: (if d.less then 45 else 43) :: 32 :: partL d.b d.t)
def outL (o : Out) : List Nat := if o.sign = 0 then [110, 111, 110, 101] else (if o.sign = -1 then [45] else []) ++ partL o.thing o.shift
def outLine (o : Out) : List Nat := [111, 117, 116, 32] ++ outL o
def insL (n : Nat) : List Nat := [105, 110, 32] ++ nl n
def Web.linesL (w : Web) : List (List Nat) := insL w.ins :: (w.deeds.map deedL ++ w.outs.map outLine)
def Web.textL (w : Web) : List Nat := TL.joinL [10] w.linesL
def Web.text (w : Web) : Str := S w.textL
/-! ### numbers -/
theorem num_str (n : Nat) : Str.ofString (toString ((n : Nat) : Int)) = S (nl n) := SX.num_S n
theorem num_strI {s : Int} (h : 0 ≤ s) : Str.ofString (toString s) = S (nl s.toNat) := by
  obtain ⟨n, rfl⟩ := Int.eq_ofNat_of_zero_le h
  exact num_str n
theorem nl_dig {n c : Nat} (h : c ∈ nl n) : 48 ≤ c ∧ c ≤ 57 := TL.numL_digits n c h
theorem nl_not {n c : Nat} (h : c < 48 ∨ 57 < c) : c ∉ nl n := fun hm => by have := nl_dig hm; omega
theorem nl_read {n : Nat} (h : (nl n).length ≤ 640) : PySem.intText? (S (nl n)) = some (n : Int) := by
  rw [← num_str]; exact TL.int_num (Nat.le_trans h (by decide))
theorem nl_len {n k : Nat} (hk : 0 < k) (h : n < 10 ^ k) : (nl n).length ≤ k := TL.numL_len hk h
theorem nl_zero {n : Nat} (h : (nl n).head? = some 48) : n = 0 := by
  induction n using Nat.strongRecOn with
  | ind n ih =>
    by_cases h1 : n < 10
    · rw [show nl n = [48 + n] from TL.numL_lt h1] at h
      simp at h; omega
    · have e : nl n = nl (n / 10) ++ [48 + n % 10] := TL.numL_step (by omega)
      have hne : nl (n / 10) ≠ [] := TL.numL_ne _
      obtain ⟨c, r, hc⟩ := List.exists_cons_of_ne_nil hne
      rw [e, hc, List.cons_append, List.head?_cons] at h
      have := ih (n / 10) (by omega) (by rw [hc, List.head?_cons]; exact h)
      omega
theorem nl_len1 {n : Nat} (h : n ≠ 0) : nl n ≠ [48] := fun e => h (nl_zero (by rw [e]; rfl))
theorem nl_0 : nl 0 = [48] := by decide
/-! ### finding -/
theorem at_S {p y : List Nat} {i : Nat} : StrLaws.At (S p) (S y) (S p).length i ↔ i + y.length ≤ p.length ∧ (p.drop i).take y.length = y := by
  unfold StrLaws.At
  rw [StrLaws.subAt_eq, SX.S_len, SX.S_len]
  simp
theorem find_app {c : Nat} {sep p q : List Nat} (h : c ∉ p) : Txt.find (S (p ++ (c :: sep ++ q))) (S (c :: sep)) = p.length := by
  rcases PyProof.Rows.find_whole (S (p ++ (c :: sep ++ q))) (S (c :: sep)) with ⟨_, hn⟩ | ⟨i, e, ha, hb⟩
  · exact absurd (at_S.mpr ⟨by simp, by simp⟩) (hn p.length)
  · rw [e]
    have h1 : ¬ p.length < i := fun hl => hb p.length hl (at_S.mpr ⟨by simp, by simp⟩)
    have h2 : ¬ i < p.length := fun hl => by
      obtain ⟨_, h4⟩ := at_S.mp ha
      have h5 := congrArg (fun l => l[0]?) h4
      simp only [List.length_cons, List.getElem?_take_of_lt (Nat.succ_pos _), List.getElem?_drop, List.getElem?_cons_zero, Nat.add_zero] at h5
      rw [List.getElem?_append_left hl] at h5
      exact h (List.mem_of_getElem? h5)
    have : i = p.length := by omega
    rw [this]
theorem find_none {c : Nat} {sep p : List Nat} (h : c ∉ p) : Txt.find (S p) (S (c :: sep)) = -1 := by
  rcases PyProof.Rows.find_whole (S p) (S (c :: sep)) with ⟨e, _⟩ | ⟨i, e, ha, hb⟩
  · exact e
  · obtain ⟨h3, h4⟩ := at_S.mp ha
    have h5 := congrArg (fun l => l[0]?) h4
    simp only [List.length_cons, List.getElem?_take_of_lt (Nat.succ_pos _), List.getElem?_drop, List.getElem?_cons_zero, Nat.add_zero] at h5
    exact absurd (List.mem_of_getElem? h5) h
/-! ### slices -/
theorem cut_from {p q : List Nat} {i : Int} (h : i = p.length) : cutS (S (p ++ q)) (some i) none = S q := by rw [C8.cutS_slice]; exact SX.from_app p q h
theorem cut_to {p q : List Nat} {i : Int} (h : i = p.length) : cutS (S (p ++ q)) none (some i) = S p := by rw [C8.cutS_slice]; exact SX.to_app p q h
/-! ### what the words are made of -/
theorem part_not {a c : Nat} {s : Int} (h : c < 48 ∨ 57 < c) (h2 : c ≠ 60) (h3 : c ≠ 62) : c ∉ partL a s := fun hm => by
  unfold partL at hm
  rcases List.mem_append.mp hm with q | q
  · exact nl_not h q
  · split at q
    · rcases List.mem_cons.mp q with e | q
      · exact h2 e
      · rcases List.mem_cons.mp q with e | q
        · exact h2 e
        · exact nl_not h q
    · split at q
      · rcases List.mem_cons.mp q with e | q
        · exact h3 e
        · rcases List.mem_cons.mp q with e | q
          · exact h3 e
          · exact nl_not h q
      · cases q
theorem part_ne {a : Nat} {s : Int} : partL a s ≠ [] := fun h => by
  unfold partL at h
  exact TL.numL_ne a (List.append_eq_nil_iff.mp h).1
theorem split_sp {parts : List (List Nat)} (hne : parts ≠ []) (h : ∀ p ∈ parts, 32 ∉ p) : Txt.split (S (TL.joinL [32] parts)) (S [32]) = parts.map S := by
  rw [SX.split_S (by simp) (by decide), SX.spl_join hne h]
theorem split_nl {parts : List (List Nat)} (hne : parts ≠ []) (h : ∀ p ∈ parts, 10 ∉ p) : Txt.split (S (TL.joinL [10] parts)) (S [10]) = parts.map S := by
  rw [SX.split_S (by simp) (by decide), SX.spl_join hne h]
theorem deed_words {d : Deed} : deedL d = TL.joinL [32] [partL d.a d.s, [if d.less then 45 else 43], partL d.b d.t] := by
  unfold deedL TL.joinL TL.joinL TL.joinL; simp
theorem out_words {o : Out} : outLine o = TL.joinL [32] [[111, 117, 116], outL o] := by
  unfold outLine TL.joinL TL.joinL; simp
theorem outL_not {o : Out} {c : Nat} (h : c < 45) : c ∉ outL o := fun hm => by
  unfold outL at hm
  split at hm
  · simp at hm; omega
  · rcases List.mem_append.mp hm with q | q
    · split at q
      · simp at q; omega
      · cases q
    · exact part_not (.inl (by omega)) (by omega) (by omega) q
theorem deed_split {d : Deed} : Txt.split (S (deedL d)) (S [32]) = [S (partL d.a d.s), S [if d.less then 45 else 43], S (partL d.b d.t)] := by
  rw [deed_words, split_sp (by simp) (fun p hp => ?_)]; rfl
  simp only [List.mem_cons, List.not_mem_nil, or_false] at hp
  rcases hp with e | e | e
  · rw [e]; exact part_not (.inl (by decide)) (by decide) (by decide)
  · rw [e]; split <;> decide
  · rw [e]; exact part_not (.inl (by decide)) (by decide) (by decide)
theorem out_split {o : Out} : Txt.split (S (outLine o)) (S [32]) = [S [111, 117, 116], S (outL o)] := by
  rw [out_words, split_sp (by simp) (fun p hp => ?_)]; rfl
  simp only [List.mem_cons, List.not_mem_nil, or_false] at hp
  rcases hp with e | e
  · rw [e]; decide
  · rw [e]; exact outL_not (by decide)
theorem text_split {w : Web} : Txt.split w.text (S [10]) = w.linesL.map S := by
  unfold Web.text Web.textL
  refine split_nl (by unfold Web.linesL; simp) (fun p hp => ?_)
  unfold Web.linesL at hp
  rcases List.mem_cons.mp hp with e | hp
  · rw [e]; unfold insL; simp; exact nl_not (.inl (by decide))
  · rcases List.mem_append.mp hp with q | q
    · obtain ⟨d, _, rfl⟩ := List.mem_map.mp q
      unfold deedL
      intro hm
      rcases List.mem_append.mp hm with q | q
      · exact part_not (.inl (by decide)) (by decide) (by decide) q
      · simp only [List.mem_cons] at q
        rcases q with e | e | e | q
        · omega
        · split at e <;> omega
        · omega
        · exact part_not (.inl (by decide)) (by decide) (by decide) q
    · obtain ⟨o, _, rfl⟩ := List.mem_map.mp q
      unfold outLine
      intro hm
      rcases List.mem_append.mp hm with q | q
      · simp at q
      · exact outL_not (by decide) q
/-! ### lengths -/
theorem part_len {a : Nat} {s : Int} (ha : a < 10 ^ 60) (hs : s.natAbs < 10 ^ 4) : (partL a s).length ≤ 66 := by
  have h1 := nl_len (by decide) ha
  unfold partL
  rw [List.length_append]
  split
  · have := nl_len (n := s.toNat) (k := 4) (by decide) (by omega)
    simp only [List.length_cons]; omega
  · split
    · have := nl_len (n := (-s).toNat) (k := 4) (by decide) (by omega)
      simp only [List.length_cons]; omega
    · simp; omega
end SS
set_option maxHeartbeats 4000000
set_option exponentiation.threshold 10
/-! The walks, three: widths.py. -/
namespace SS
open PySem PySem.Spec PyProof.Rows L2
def needI (n : Int) : Int := (Builtin.Int.intBits (if n < 0 then -n - 1 else n) : Nat) + 1
def R_wrapped (ds : List PyData) (d : PyData) : Prop := ∃ (n : Int) (k : Nat), k ≤ 4000 ∧ ds = [.int n, .int k] ∧ d = .int (wr n k)
def R_shiftedin (ds : List PyData) (d : PyData) : Prop := ∃ (n s : Int) (k : Nat), k ≤ 4000 ∧ (-4000 ≤ s ∧ s ≤ 4000) ∧ n.natAbs ≤ 2 ^ 1000000 ∧ ds = [.int n, .int s, .int k] ∧ d = .int (shW n s k)
def R_runin (ds : List PyData) (d : PyData) : Prop := ∃ (x : Web) (v : List Int) (k : Nat), x.ok ∧ k ≤ 4000 ∧ v.length = x.ins ∧ ds = [encW x, .int k, encI v] ∧ d = encI (x.valsW k v)
def R_outsin (ds : List PyData) (d : PyData) : Prop := ∃ (x : Web) (v : List Int) (k : Nat), x.ok ∧ k ≤ 4000 ∧ v.length = x.ins ∧ ds = [encW x, .int k, encI v] ∧ d = encI (x.outsW k v)
def R_partsure (ds : List PyData) (d : PyData) : Prop := ∃ b s k : Int, ds = [.int b, .int s, .int k] ∧ d = .int (psure b s k)
def R_sure (ds : List PyData) (d : PyData) : Prop := ∃ (x : Web) (k : Nat), x.ok ∧ ds = [encW x, .int k] ∧ d = encI (x.sures k)
def R_need (ds : List PyData) (d : PyData) : Prop := ∃ n : Int, ds = [.int n] ∧ d = .int (needI n)
def encR (p : Int × Int) : PyData := .tuple [.int p.1, .int p.2]
def R_ends (ds : List PyData) (d : PyData) : Prop := ∃ (r : Row) (rg : List (Int × Int)), r.length ≤ 12 ∧ (∀ n ∈ r, n.natAbs ≤ 2 ^ 1000000) ∧ (∀ p ∈ rg, p.1.natAbs ≤ 2 ^ 4000 ∧ p.2.natAbs ≤ 2 ^ 4000) ∧ ds = [encT r, .list (rg.map encR)] ∧ d = .list [.int (endsL r rg).1, .int (endsL r rg).2]
def wforF (rg : List (Int × Int)) (f : Int) (r : Row) : Int := mx (mx f (needI (endsL r rg).1)) (needI (endsL r rg).2)
def wfor (x : Web) (rg : List (Int × Int)) : Int := (x.rows ++ x.outRows).foldl (wforF rg) 1
def Rg (x : Web) (rg : List (Int × Int)) : Prop := rg.length = x.ins ∧ ∀ p ∈ rg, p.1.natAbs ≤ 2 ^ 4000 ∧ p.2.natAbs ≤ 2 ^ 4000
def R_widthfor (ds : List PyData) (d : PyData) : Prop := ∃ (x : Web) (rg : List (Int × Int)), x.ok ∧ Rg x rg ∧ ds = [encW x, .list (rg.map encR)] ∧ d = .int (wfor x rg)
def R_fits (ds : List PyData) (d : PyData) : Prop := ∃ (x : Web) (rg : List (Int × Int)) (k : Nat), x.ok ∧ Rg x rg ∧ ds = [encW x, .int k, .list (rg.map encR)] ∧ d = .bool (decide (wfor x rg ≤ k))
def rngW (x : Web) (k : Nat) : Int × Int := rngL (2 ^ (k - 1)) ((x.rows ++ x.outRows).map fun r => r.getD 0 0)
def Sm (x : Web) (k : Nat) : Prop := ∀ r ∈ x.rows ++ x.outRows, ∀ n ∈ r, n.natAbs < 2 ^ k
def R_rangein (ds : List PyData) (d : PyData) : Prop := ∃ (x : Web) (k : Nat), x.ok ∧ x.ins = 1 ∧ Sm x 8000 ∧ 1 ≤ k ∧ k ≤ 4000 ∧ ds = [encW x, .int k] ∧ d = encR (rngW x k)
theorem one_shl {k : Nat} (h : k ≤ 4000) : CShl 1 (k : Int) := shl_ok (n := 1) (by decide) (by omega)
theorem up_pow {a b : Nat} (h : a ≤ b) {n : Int} (hn : n.natAbs ≤ 2 ^ a) : n.natAbs ≤ 2 ^ b := Nat.le_trans hn (Nat.pow_le_pow_right (by decide) h)
section
variable {P : Program} {w : World} {K : PySem.W.Frag} {mg : Str → Option Value} {base : Heap}
theorem sc_97 : FnScope ["number", "width", "full", "rest"] ["number", "width"] (defScope (top 97)) := ⟨rfl, rfl, rfl, by decide +kernel, rfl, by decide +kernel, by decide +kernel⟩
theorem sc_98 : FnScope ["number", "shift", "width"] ["number", "shift", "width"] (defScope (top 98)) := ⟨rfl, rfl, rfl, by decide +kernel, rfl, by decide +kernel, by decide +kernel⟩
theorem sc_99 : FnScope ["web", "width", "values", "found", "word", "a", "s", "b", "t", "one", "other", "number"] ["web", "width", "values"] (defScope (top 99)) := ⟨rfl, rfl, rfl, by decide +kernel, rfl, by decide +kernel, by decide +kernel⟩
theorem sc_100 : FnScope ["web", "width", "values", "found", "thing", "shift", "sign"] ["web", "width", "values"] (defScope (top 100)) := ⟨rfl, rfl, rfl, by decide +kernel, rfl, by decide +kernel, by decide +kernel⟩
theorem sc_101 : FnScope ["bits", "shift", "width"] ["bits", "shift", "width"] (defScope (top 101)) := ⟨rfl, rfl, rfl, by decide +kernel, rfl, by decide +kernel, by decide +kernel⟩
theorem sc_102 : FnScope ["web", "width", "found", "word", "a", "s", "b", "t", "k"] ["web", "width"] (defScope (top 102)) := ⟨rfl, rfl, rfl, by decide +kernel, rfl, by decide +kernel, by decide +kernel⟩
theorem sc_103 : FnScope ["number"] ["number"] (defScope (top 103)) := ⟨rfl, rfl, rfl, by decide +kernel, rfl, by decide +kernel, by decide +kernel⟩
theorem sc_104 : FnScope ["told", "ranges", "low", "high", "number", "least", "most"] ["told", "ranges"] (defScope (top 104)) := ⟨rfl, rfl, rfl, by decide +kernel, rfl, by decide +kernel, by decide +kernel⟩
theorem sc_105 : FnScope ["web", "ranges", "found", "told", "number"] ["web", "ranges"] (defScope (top 105)) := ⟨rfl, rfl, rfl, by decide +kernel, rfl, by decide +kernel, by decide +kernel⟩
theorem sc_106 : FnScope ["web", "width", "ranges"] ["web", "width", "ranges"] (defScope (top 106)) := ⟨rfl, rfl, rfl, by decide +kernel, rfl, by decide +kernel, by decide +kernel⟩
theorem sc_107 : FnScope ["web", "width", "half", "low", "high", "told", "number"] ["web", "width"] (defScope (top 107)) := ⟨rfl, rfl, rfl, by decide +kernel, rfl, by decide +kernel, by decide +kernel⟩
theorem cal_wrapped (D : Df K mg "wrapped" "wrapped" (top 97) ["number", "width"]) : Cal P w K mg base "wrapped" 1 ["number", "width"] (spP K R_wrapped) := by
  refine cal_P (N := ["number", "width", "full", "rest"]) D sc_97 (by rintro ds d ⟨n, k, _, rfl, _⟩; rfl) (by decide) (fun f cdv A outer s H E hr ds d h => ?_)
  obtain ⟨n, k, hk, rfl, rfl⟩ := h
  show DS _ _ [.dat (.int n), .dat (.int k), .un, .un] [] _ _
  have e0 : (1 : Int) * 2 ^ (k : Int).toNat = 2 ^ k := by rw [Int.one_mul, Int.toNat_natCast]
  have hp : (0 : Int) < 2 ^ k := Int.pow_pos (by decide)
  refine set1 2 ((dp_shl dp_int (dp_var 1) (one_shl hk)).is (by rw [e0])) ?_
  refine set1 3 (dp_mod (dp_var 0) (dp_var 2) hp) ?_
  refine if1 (dt_ge (dp_var 3) (dp_shr (dp_var 2) dp_int (by decide))) (fun h => ?_) (fun h => ?_)
  · refine ret1 (dp_sub (dp_var 3) (dp_var 2)) ?_
    have h2 := of_decide_eq_true h
    unfold wr; rw [if_pos (by simpa using h2)]
  · refine ret1 (dp_var 3) ?_
    have h2 := of_decide_eq_false h
    unfold wr; rw [if_neg (by simpa using h2)]
theorem cal_shiftedin (c1 : Cal P w K mg base "wrapped" 1 ["number", "width"] (spP K R_wrapped)) (D : Df K mg "shifted_in" "shifted_in" (top 98) ["number", "shift", "width"]) : Cal P w K mg base "shifted_in" 2 ["number", "shift", "width"] (spP K R_shiftedin) := by
  refine cal_P (N := ["number", "shift", "width"]) D sc_98 (by rintro ds d ⟨n, s, k, _, _, _, rfl, _⟩; rfl) (by decide) (fun f cdv A outer s H E hr ds d h => ?_)
  obtain ⟨n, s, k, hk, hs, hn, rfl, rfl⟩ := h
  show DS _ _ [.dat (.int n), .dat (.int s), .dat (.int k)] [] _ _
  refine if1 (dt_lt (dp_var 1) dp_int) (fun h => ?_) (fun h => ?_)
  · have h2 : s < 0 := of_decide_eq_true h
    refine ret1 (dp_shr (dp_var 0) (dp_neg (dp_var 1)) (by omega)) ?_
    unfold shW; rw [if_pos h2]
  · have h2 : ¬ s < 0 := of_decide_eq_false h
    refine ret1 (dp_call c1 hr rfl (da_cons (dp_shl (dp_var 0) (dp_var 1) ?_) (da_cons (dp_var 2) da_nil)) ⟨_, k, hk, rfl, rfl⟩) ?_
    · obtain ⟨m, rfl⟩ := Int.eq_ofNat_of_zero_le (show 0 ≤ s by omega)
      exact shl_ok (pow_lt hn) (by omega)
    · unfold shW; rw [if_neg h2]
theorem cal_partsure (B : Bi mg) (D : Df K mg "part_sure" "part_sure" (top 101) ["bits", "shift", "width"]) : Cal P w K mg base "part_sure" 1 ["bits", "shift", "width"] (spP K R_partsure) := by
  refine cal_P (N := ["bits", "shift", "width"]) D sc_101 (by rintro ds d ⟨n, s, k, rfl, _⟩; rfl) (by decide) (fun f cdv A outer s H E hr ds d h => ?_)
  obtain ⟨b, s, k, rfl, rfl⟩ := h
  show DS _ _ [.dat (.int b), .dat (.int s), .dat (.int k)] [] _ _
  exact ret1 (dp_max2 B dp_int (dp_min2 B (dp_var 2) (dp_add (dp_var 0) (dp_var 1)))) rfl
theorem cal_need (D : Df K mg "need" "need" (top 103) ["number"]) : Cal P w K mg base "need" 1 ["number"] (spP K R_need) := by
  refine cal_P (N := ["number"]) D sc_103 (by rintro ds d ⟨n, rfl, _⟩; rfl) (by decide) (fun f cdv A outer s H E hr ds d h => ?_)
  obtain ⟨n, rfl, rfl⟩ := h
  show DS _ _ [.dat (.int n)] [] _ _
  refine ds_if (mid := fun ρ' O' => ρ' = [.dat (.int (if n < 0 then -n - 1 else n))] ∧ O' = []) (dte_pure (dt_lt (dp_var 0) dp_int) ⟨fun h => ?_, fun h => ?_⟩) ?_
  · refine set1 0 (dp_sub (dp_neg (dp_var 0)) dp_int) (ds_nil ⟨?_, rfl⟩)
    rw [if_pos (of_decide_eq_true h)]
  · refine ds_nil ⟨?_, rfl⟩
    rw [if_neg (of_decide_eq_false h)]
  · rintro ρ' O' ⟨rfl, rfl⟩
    exact ret1 (dp_add (dp_bits (dp_var 0)) dp_int) rfl
theorem cal_ends (B : Bi mg) (D : Df K mg "ends" "ends" (top 104) ["told", "ranges"]) : Cal P w K mg base "ends" 1 ["told", "ranges"] (spP K R_ends) := by
  refine cal_P (N := ["told", "ranges", "low", "high", "number", "least", "most"]) D sc_104 (by rintro ds d ⟨r, rg, _, _, _, rfl, _⟩; rfl) (by decide) (fun f cdv A outer s H E hr ds d h => ?_)
  obtain ⟨r, rg, hl, hb, hg, rfl, rfl⟩ := h
  show DS _ _ [.dat (encT r), .dat (.list (rg.map encR)), .un, .un, .un, .un, .un] [] _ _
  refine set1 2 dp_int ?_
  refine set1 3 dp_int ?_
  have zz : (r.map PyData.int).zip (rg.map encR) = (r.zip rg).map fun p => (PyData.int p.1, encR p.2) := by rw [List.zip_map]; rfl
  refine ds_for (die_pure (di_zip2 B (dp_var 0) (dp_var 1) (.tup _) (.lst _)) ⟨fun i ρ' O' => ∃ a b c, ρ' = [.dat (encT r), .dat (.list (rg.map encR)), .dat (.int (((r.zip rg).take i).foldl endsF (0, 0)).1), .dat (.int (((r.zip rg).take i).foldl endsF (0, 0)).2), a, b, c] ∧ O' = [], ⟨_, _, _, rfl, rfl⟩, ?_, ?_⟩)
  · rintro i y ρ' O' hx ⟨a, b, c, rfl, rfl⟩
    rw [zz, List.map_map] at hx
    obtain ⟨p, hp, rfl⟩ := get_map hx
    have hm := List.of_mem_zip (List.mem_of_getElem? hp)
    have h1 := hb _ hm.1
    obtain ⟨h2, h3⟩ := hg _ hm.2
    refine ⟨_, dg_tup rfl (dgs_cons (dgn 4) (dgs_cons (dg_tup rfl (dgs_cons (dgn 5) (dgs_cons (dgn 6) dgs_nil))) dgs_nil)), nrm ?_⟩
    have m1 : CMulX p.1 p.2.1 := mulx_ok (pow_lt h1) (pow_lt h2) (by decide)
    have m2 : CMulX p.1 p.2.2 := mulx_ok (pow_lt h1) (pow_lt h3) (by decide)
    refine set1 2 (dp_add (dp_var 2) (dp_min2 B (dp_mul (dp_var 4) (dp_var 5) m1) (dp_mul (dp_var 4) (dp_var 6) m2))) ?_
    refine set1 3 (dp_add (dp_var 3) (dp_max2 B (dp_mul (dp_var 4) (dp_var 5) m1) (dp_mul (dp_var 4) (dp_var 6) m2))) (ds_nil ⟨.dat (.int p.1), .dat (.int p.2.1), .dat (.int p.2.2), ?_, rfl⟩)
    rw [take_succ_snoc hp, List.foldl_append]
    rfl
  · rintro ρ' O' ⟨a, b, c, rfl, rfl⟩
    rw [zz, List.map_map, List.length_map, List.take_length]
    exact ret1 (dp_lst (da_cons (dp_var 2) (da_cons (dp_var 3) da_nil))) rfl

theorem cal_runin (B : Bi mg) (c1 : Cal P w K mg base "wrapped" 1 ["number", "width"] (spP K R_wrapped)) (c2 : Cal P w K mg base "shifted_in" 2 ["number", "shift", "width"] (spP K R_shiftedin)) (D : Df K mg "run_in" "run_in" (top 99) ["web", "width", "values"]) : Cal P w K mg base "run_in" 3 ["web", "width", "values"] (spP K R_runin) := by
  refine cal_P (N := ["web", "width", "values", "found", "word", "a", "s", "b", "t", "one", "other", "number"]) D sc_99 (by rintro ds d ⟨x, v, k, _, _, _, rfl, _⟩; rfl) (by decide) (fun f cdv A outer s H E hr ds d h => ?_)
  obtain ⟨x, v, k, hok, hk, hv, rfl, rfl⟩ := h
  have hi2 := hok.i2
  have hdl := hok.dl
  show DS _ _ [.dat (encW x), .dat (.int k), .dat (encI v), .un, .un, .un, .un, .un, .un, .un, .un, .un] [] _ _
  refine if1 (dt_neI (dp_len B (dp_var 2)) (dp_ixT (dp_var 0) dp_int rfl)) (fun h => ?_) (fun _ => ?_)
  · rw [List.length_map, hv] at h; simp at h
  refine setLO 3 [("number", 11)] v .int (fun n => .int (wr n k)) (fun n => [(11, .int n)]) (di_list (dp_var 2)) (fun x _ s H C cl fp => dgn 11) (fun n hn s H C cl fp => ?_) ?_ (by omega)
  · exact dp_call c1 (hr.mono (by decide)) rfl (da_cons (dp_var 11) (da_cons (dp_var 1) da_nil)) ⟨n, k, hk, rfl, rfl⟩
  show DS _ _ _ [.lst ((v.map fun n => PyData.int (wr n k)).map .dat)] _ _
  have e0 : (v.map fun n => PyData.int (wr n k)) = (v.map (wr · k)).map PyData.int := by rw [List.map_map]; rfl
  rw [e0]
  have hv2 : (v.map (wr · k)).length = x.ins := by rw [List.length_map, hv]
  have hbd : ∀ i, ∀ y ∈ grow (stepW k) (v.map (wr · k)) (x.deeds.take i), y.natAbs ≤ 2 ^ k := by
    have key : ∀ (ds : List Deed) (V : List Int), (∀ y ∈ V, y.natAbs ≤ 2 ^ k) → ∀ y ∈ grow (stepW k) V ds, y.natAbs ≤ 2 ^ k := by
      intro ds
      induction ds with
      | nil => intro V h; exact h
      | cons d ds ih => intro V h; refine ih _ fun y hy => ?_
                        rcases List.mem_append.mp hy with q | q
                        · exact h y q
                        · rw [List.mem_singleton.mp q]; exact wr_le
    exact fun i => key _ _ fun y hy => by obtain ⟨z, _, rfl⟩ := List.mem_map.mp hy; exact wr_le
  refine ds_for (die_pure (di_list (dp_ixT (dp_var 0) dp_int rfl)) ⟨fun i ρ' O' => ∃ a b c d e f g, ρ' = [.dat (encW x), .dat (.int k), .dat (encI v), .ptr 0, a, b, c, d, e, f, g, .un] ∧ O' = [.lst (((grow (stepW k) (v.map (wr · k)) (x.deeds.take i)).map PyData.int).map .dat)], ⟨_, _, _, _, _, _, _, rfl, rfl⟩, ?_, ?_⟩)
  · rintro i y ρ' O' hx ⟨a, b, c, d, e, f, g, rfl, rfl⟩
    obtain ⟨e, he, rfl⟩ := get_map hx
    have hD := okDs_at hok.ds he
    have hlt := get_lt he
    have hL : (rows x.ins (x.deeds.take i)).length = x.ins + i := by rw [rows_len, List.length_take]; omega
    have hG : (grow (stepW k) (v.map (wr · k)) (x.deeds.take i)).length = x.ins + i := by rw [grow_len, List.length_take, hv2]; omega
    have ha : e.a < x.ins + i := by have := hD.1; unfold rows at hL; omega
    have hbb : e.b < x.ins + i := by have := hD.2.1; unfold rows at hL; omega
    have hB := hbd i
    have tr := grow_take (f := stepW k) (v.map (wr · k)) he
    generalize hV : grow (stepW k) (v.map (wr · k)) (x.deeds.take i) = V at *
    have na := up_pow (show k ≤ 1000000 by omega) (hB _ (getD_mem (z := 0) (by omega : e.a < V.length)))
    have nb := up_pow (show k ≤ 1000000 by omega) (hB _ (getD_mem (z := 0) (by omega : e.b < V.length)))
    refine ⟨_, dg_tup rfl (dgs_cons (dgn 4) (dgs_cons (dgn 5) (dgs_cons (dgn 6) (dgs_cons (dgn 7) (dgs_cons (dgn 8) dgs_nil))))), nrm ?_⟩
    refine setE 9 (de_borrow [none, some (.int k), none, some (encI V), none, some (.int e.a), some (.int e.s), some (.int e.b), some (.int e.t), none, none, none] (.no (.yes (.dat _) (.no (.yes (.ptr rfl vds_map) (.no (.yes (.dat _) (.yes (.dat _) (.yes (.dat _) (.yes (.dat _) (.no (.no (.no .nil)))))))))))) (dp_call c2 hr rfl (da_cons (dp_ixL (dp_var 3) (dp_var 5) (ints_at (by omega))) (da_cons (dp_var 6) (da_cons (dp_var 1) da_nil))) ⟨_, _, k, hk, hD.2.2.1, na, rfl, rfl⟩) rfl ?_)
    refine setE 10 (de_borrow [none, some (.int k), none, some (encI V), none, some (.int e.a), some (.int e.s), some (.int e.b), some (.int e.t), none, none, none] (.no (.yes (.dat _) (.no (.yes (.ptr rfl vds_map) (.no (.yes (.dat _) (.yes (.dat _) (.yes (.dat _) (.yes (.dat _) (.no (.no (.no .nil)))))))))))) (dp_call c2 hr rfl (da_cons (dp_ixL (dp_var 3) (dp_var 7) (ints_at (by omega))) (da_cons (dp_var 8) (da_cons (dp_var 1) da_nil))) ⟨_, _, k, hk, hD.2.2.2.1, nb, rfl, rfl⟩) rfl ?_)
    refine ds_if (mid := fun ρ' O' => ρ' = [.dat (encW x), .dat (.int k), .dat (encI v), .ptr 0, .dat (.str (wordOf e.less)), .dat (.int e.a), .dat (.int e.s), .dat (.int e.b), .dat (.int e.t), .dat (.int (shW (V.getD e.a 0) e.s k)), .dat (.int (if e.less then -(shW (V.getD e.b 0) e.t k) else shW (V.getD e.b 0) e.t k)), .un] ∧ O' = [.lst ((V.map PyData.int).map .dat)]) (dte_pure (dt_eqS (dp_var 4) dp_str) ⟨fun h => ?_, fun h => ?_⟩) ?_
    · have hl : e.less = true := by
        cases q : e.less with
        | true => rfl
        | false => rw [q] at h; exact absurd h (by decide)
      refine set1 10 (dp_neg (dp_var 10)) (ds_nil ?_)
      rw [hl]; exact ⟨rfl, rfl⟩
    · have hl : e.less = false := by
        cases q : e.less with
        | false => rfl
        | true => rw [q] at h; exact absurd h (by decide)
      refine ds_nil ?_
      rw [hl]; exact ⟨rfl, rfl⟩
    · rintro ρ' O' ⟨rfl, rfl⟩
      refine ds_expr (de_append (de_var 3 rfl ⟨0, _, rfl, rfl, de_pure (dp_call c1 (hr.mono (by decide)) rfl (da_cons (dp_add (dp_var 9) (dp_var 10)) (da_cons (dp_var 1) da_nil)) ⟨_, k, hk, rfl, rfl⟩) ⟨_, rfl, ?_, ds_nil ⟨_, _, _, _, _, _, _, rfl, ?_⟩⟩⟩))
      · rw [List.length_map, List.length_map, hG]; omega
      · rw [tr]
        show [Ow.lst _] = _
        rw [dat_map]
        unfold stepW sg
        cases e.less <;> simp [Int.sub_eq_add_neg]
  · rintro ρ' O' ⟨a, b, c, d, e, f, g, rfl, rfl⟩
    rw [List.length_map, List.take_length]
    exact ds_freeze 0 3 rfl rfl (ret1 (dp_var 3) rfl)
theorem valsW_le {x : Web} {v : List Int} {k : Nat} : ∀ y ∈ x.valsW k v, y.natAbs ≤ 2 ^ k := by
  have key : ∀ (ds : List Deed) (V : List Int), (∀ y ∈ V, y.natAbs ≤ 2 ^ k) → ∀ y ∈ grow (stepW k) V ds, y.natAbs ≤ 2 ^ k := by
    intro ds
    induction ds with
    | nil => intro V h; exact h
    | cons d ds ih => intro V h; refine ih _ fun y hy => ?_
                      rcases List.mem_append.mp hy with q | q
                      · exact h y q
                      · rw [List.mem_singleton.mp q]; exact wr_le
  exact key _ _ fun y hy => by obtain ⟨z, _, rfl⟩ := List.mem_map.mp hy; exact wr_le
theorem out_facts {x : Web} (h : x.ok) {o : Out} (ho : o ∈ x.outs) : o.thing < x.ins + x.deeds.length ∧ (-4000 ≤ o.shift ∧ o.shift ≤ 4000) ∧ (o.sign = 0 ∨ o.sign = 1 ∨ o.sign = -1) := by
  have hr : x.rows.length = x.ins + x.deeds.length := rows_len
  rcases h.os o ho with q | ⟨h1, h2, h3, h4⟩
  · rw [q]; have := h.i1; exact ⟨by show 0 < _; omega, ⟨by decide, by decide⟩, .inl rfl⟩
  · exact ⟨by rw [← hr]; exact h1, h2, .inr h4⟩
theorem shW_le {n s : Int} {k : Nat} (h : n.natAbs ≤ 2 ^ k) : (shW n s k).natAbs ≤ 2 ^ k := by
  unfold shW
  split
  · rename_i hs
    have := shI_le (S := 0) h (show s ≤ ((0 : Nat) : Int) by omega)
    unfold shI at this
    rwa [if_neg (by omega)] at this
  · exact wr_le
theorem cal_outsin (c1 : Cal P w K mg base "wrapped" 1 ["number", "width"] (spP K R_wrapped)) (c2 : Cal P w K mg base "shifted_in" 2 ["number", "shift", "width"] (spP K R_shiftedin)) (c3 : Cal P w K mg base "run_in" 3 ["web", "width", "values"] (spP K R_runin)) (D : Df K mg "outs_in" "outs_in" (top 100) ["web", "width", "values"]) : Cal P w K mg base "outs_in" 4 ["web", "width", "values"] (spP K R_outsin) := by
  refine cal_P (N := ["web", "width", "values", "found", "thing", "shift", "sign"]) D sc_100 (by rintro ds d ⟨x, v, k, _, _, _, rfl, _⟩; rfl) (by decide) (fun f cdv A outer s H E hr ds d h => ?_)
  obtain ⟨x, v, k, hok, hk, hv, rfl, rfl⟩ := h
  show DS _ _ [.dat (encW x), .dat (.int k), .dat (encI v), .un, .un, .un, .un] [] _ _
  refine set1 3 (dp_call c3 hr rfl (da_cons (dp_var 0) (da_cons (dp_var 1) (da_cons (dp_var 2) da_nil))) ⟨x, v, k, hok, hk, hv, rfl, rfl⟩) ?_
  refine ret1 (lcp [("thing", 4), ("shift", 5), ("sign", 6)] x.outs encO (fun o => .int (outW k (x.valsW k v) o)) (fun o => [(4, .int o.thing), (5, .int o.shift), (6, .int o.sign)]) (di_list (dp_ixT (dp_var 0) dp_int rfl)) (fun o _ s H C cl fp => dg_tup rfl (dgs_cons (dgn 4) (dgs_cons (dgn 5) (dgs_cons (dgn 6) dgs_nil)))) (fun o ho s H C cl fp => ?_) rfl (by have := hok.ol; omega)) ?_
  · obtain ⟨h1, h2, h3⟩ := out_facts hok ho
    have hl : o.thing < (x.valsW k v).length := by unfold Web.valsW; rw [grow_len, List.length_map, hv]; exact h1
    have nb := valsW_le (x := x) (v := v) (k := k) _ (getD_mem (z := 0) hl)
    refine dp_call c1 (hr.mono (by decide)) rfl (da_cons (dp_mul (dp_var 6) (dp_call c2 (hr.mono (by decide)) (by rfl) (da_cons (dp_ixL (dp_var 3) (dp_var 4) (ints_at hl)) (da_cons (dp_var 5) (da_cons (dp_var 1) da_nil))) ⟨_, _, k, hk, h2, up_pow (show k ≤ 1000000 by omega) nb, rfl, rfl⟩) ?_) (da_cons (dp_var 1) da_nil)) ⟨_, k, hk, rfl, rfl⟩
    exact mulx_ok (a := 2) (b := 4001) (by rcases h3 with h5 | h5 | h5 <;> rw [h5] <;> decide) (pow_lt (up_pow hk (shW_le nb))) (by decide)
  · show SV.dat _ = _
    unfold encI Web.outsW; rw [List.map_map]; rfl
theorem cal_sure (B : Bi mg) (c1 : Cal P w K mg base "part_sure" 1 ["bits", "shift", "width"] (spP K R_partsure)) (D : Df K mg "sure" "sure" (top 102) ["web", "width"]) : Cal P w K mg base "sure" 2 ["web", "width"] (spP K R_sure) := by
  refine cal_P (N := ["web", "width", "found", "word", "a", "s", "b", "t", "k"]) D sc_102 (by rintro ds d ⟨x, k, _, rfl, _⟩; rfl) (by decide) (fun f cdv A outer s H E hr ds d h => ?_)
  obtain ⟨x, k, hok, rfl, rfl⟩ := h
  have hi2 := hok.i2
  have hdl := hok.dl
  show DS _ _ [.dat (encW x), .dat (.int k), .un, .un, .un, .un, .un, .un, .un] [] _ _
  refine setLO 2 [("k", 8)] (List.range x.ins) (fun i : Nat => .int i) (fun _ => .int k) (fun i => [(8, .int i)]) ?_ (fun x _ s H C cl fp => dgn 8) (fun n hn s H C cl fp => ?_) ?_ (by rw [List.length_range]; omega)
  · rw [rng_enc]; exact di_rng1 rfl B.range (dp_ixT (dp_var 0) dp_int (d := .int x.ins) rfl) (by simp) (by omega) (by omega)
  · exact dp_var 1
  show DS _ _ _ [.lst (((List.range x.ins).map fun _ => PyData.int k).map .dat)] _ _
  have e0 : ((List.range x.ins).map fun _ => PyData.int k) = (List.replicate x.ins (k : Int)).map PyData.int := by
    rw [List.map_replicate, List.map_const', List.length_range]
  rw [e0]
  refine ds_for (die_pure (di_list (dp_ixT (dp_var 0) dp_int rfl)) ⟨fun i ρ' O' => ∃ a b c d e, ρ' = [.dat (encW x), .dat (.int k), .ptr 0, a, b, c, d, e, .un] ∧ O' = [.lst (((grow (stepS k) (List.replicate x.ins (k : Int)) (x.deeds.take i)).map PyData.int).map .dat)], ⟨_, _, _, _, _, rfl, rfl⟩, ?_, ?_⟩)
  · rintro i y ρ' O' hx ⟨a, b, c, d, e, rfl, rfl⟩
    obtain ⟨e, he, rfl⟩ := get_map hx
    have hD := okDs_at hok.ds he
    have hlt := get_lt he
    have hL : (rows x.ins (x.deeds.take i)).length = x.ins + i := by rw [rows_len, List.length_take]; omega
    have hG : (grow (stepS k) (List.replicate x.ins (k : Int)) (x.deeds.take i)).length = x.ins + i := by rw [grow_len, List.length_take, List.length_replicate]; omega
    have ha : e.a < x.ins + i := by have := hD.1; unfold rows at hL; omega
    have hbb : e.b < x.ins + i := by have := hD.2.1; unfold rows at hL; omega
    have tr := grow_take (f := stepS k) (List.replicate x.ins (k : Int)) he
    generalize hV : grow (stepS k) (List.replicate x.ins (k : Int)) (x.deeds.take i) = V at *
    refine ⟨_, dg_tup rfl (dgs_cons (dgn 3) (dgs_cons (dgn 4) (dgs_cons (dgn 5) (dgs_cons (dgn 6) (dgs_cons (dgn 7) dgs_nil))))), nrm ?_⟩
    refine ds_expr (de_append (de_var 2 rfl ⟨0, _, rfl, rfl, de_borrow [none, some (.int k), some (encI V), none, some (.int e.a), some (.int e.s), some (.int e.b), some (.int e.t), none] (.no (.yes (.dat _) (.yes (.ptr rfl vds_map) (.no (.yes (.dat _) (.yes (.dat _) (.yes (.dat _) (.yes (.dat _) (.no .nil))))))))) (dp_min2 B (dp_call c1 hr rfl (da_cons (dp_ixL (dp_var 2) (dp_var 4) (ints_at (by omega))) (da_cons (dp_var 5) (da_cons (dp_var 1) da_nil))) ⟨_, _, _, rfl, rfl⟩) (dp_call c1 hr rfl (da_cons (dp_ixL (dp_var 2) (dp_var 6) (ints_at (by omega))) (da_cons (dp_var 7) (da_cons (dp_var 1) da_nil))) ⟨_, _, _, rfl, rfl⟩)) rfl ⟨_, rfl, ?_, ds_nil ⟨_, _, _, _, _, rfl, ?_⟩⟩⟩))
    · rw [List.length_map, List.length_map, hG]; omega
    · rw [tr]
      show [Ow.lst _] = _
      rw [dat_map]; rfl
  · rintro ρ' O' ⟨a, b, c, d, e, rfl, rfl⟩
    rw [List.length_map, List.take_length]
    exact ds_freeze 0 2 rfl rfl (ret1 (dp_var 2) rfl)

theorem out_sz {x : Web} (h : x.ok) : ∀ r ∈ x.rows ++ x.outRows, r.length ≤ 12 ∧ ∀ n ∈ r, n.natAbs ≤ 2 ^ 1000000 := fun r hr => by
  rcases List.mem_append.mp hr with q | q
  · exact ⟨h.sz.1 r q, fun n hn => up_pow (show 240060 ≤ 1000000 by omega) (h.sz.2 r q n hn)⟩
  · obtain ⟨o, ho, rfl⟩ := List.mem_map.mp q
    obtain ⟨h1, h2, h3⟩ := out_facts h ho
    obtain ⟨z1, z2⟩ := h.sz.get (a := o.thing)
    unfold outRow shR
    refine ⟨by rw [List.length_map, List.length_map]; exact z1, fun n hn => ?_⟩
    obtain ⟨m, hm, rfl⟩ := List.mem_map.mp hn
    obtain ⟨y, hy, rfl⟩ := List.mem_map.mp hm
    have hb := up_pow (show 240060 + 4000 ≤ 1000000 by omega) (shI_le (S := 4000) (z2 y hy) h2.2)
    rcases h3 with q | q | q <;> rw [q] <;> omega
theorem cal_widthfor (B : Bi mg) (c1 : Cal P w K mg base "numbers" 5 ["web"] (spP K R_numbers)) (c2 : Cal P w K mg base "out_numbers" 6 ["web"] (spP K R_outnumbers)) (c3 : Cal P w K mg base "ends" 1 ["told", "ranges"] (spP K R_ends)) (c4 : Cal P w K mg base "need" 1 ["number"] (spP K R_need)) (D : Df K mg "width_for" "width_for" (top 105) ["web", "ranges"]) : Cal P w K mg base "width_for" 7 ["web", "ranges"] (spP K R_widthfor) := by
  refine cal_P (N := ["web", "ranges", "found", "told", "number"]) D sc_105 (by rintro ds d ⟨x, rg, _, _, rfl, _⟩; rfl) (by decide) (fun f cdv A outer s H E hr ds d h => ?_)
  obtain ⟨x, rg, hok, ⟨hl, hb⟩, rfl, rfl⟩ := h
  have hi2 := hok.i2
  have hdl := hok.dl
  have hol := hok.ol
  show DS _ _ [.dat (encW x), .dat (.list (rg.map encR)), .un, .un, .un] [] _ _
  refine if1 (dt_neI (dp_len B (dp_var 1)) (dp_ixT (dp_var 0) dp_int rfl)) (fun h => ?_) (fun _ => ?_)
  · rw [List.length_map, hl] at h; simp at h
  refine set1 2 dp_int ?_
  have e0 : x.rows.map encT ++ x.outRows.map encT = (x.rows ++ x.outRows).map encT := by rw [List.map_append]
  refine ds_for (die_pure (di_list (dp_cat (dp_call c1 (hr.mono (by decide)) rfl (da_cons (dp_var 0) da_nil) ⟨x, hok, rfl, rfl⟩) (dp_call c2 hr rfl (da_cons (dp_var 0) da_nil) ⟨x, hok, rfl, rfl⟩) ?_)) ⟨fun i ρ' O' => ∃ a b, ρ' = [.dat (encW x), .dat (.list (rg.map encR)), .dat (.int (((x.rows ++ x.outRows).take i).foldl (wforF rg) 1)), a, b] ∧ O' = [], ⟨_, _, rfl, rfl⟩, ?_, ?_⟩)
  · unfold Web.rows Web.outRows; rw [List.length_map, List.length_map, List.length_map, rows_len, sizeLine_eq]; omega
  · rintro i y ρ' O' hx ⟨a, b, rfl, rfl⟩
    rw [e0] at hx
    obtain ⟨r, hrr, rfl⟩ := get_map hx
    have hm := List.mem_of_getElem? hrr
    obtain ⟨z1, z2⟩ := out_sz hok r hm
    refine ⟨[(3, encT r)], dgn 3, nrm ?_⟩
    refine ds_for (die_pure (di_list (dp_call c3 (hr.mono (by decide)) (by rfl) (da_cons (dp_var 3) (da_cons (dp_var 1) da_nil)) ⟨r, rg, z1, z2, hb, rfl, rfl⟩)) ⟨fun j ρ' O' => ∃ b, ρ' = [.dat (encW x), .dat (.list (rg.map encR)), .dat (.int (([(endsL r rg).1, (endsL r rg).2].take j).foldl (fun f n => mx f (needI n)) (((x.rows ++ x.outRows).take i).foldl (wforF rg) 1))), .dat (encT r), b] ∧ O' = [], ⟨_, rfl, rfl⟩, ?_, ?_⟩)
    · rintro j y ρ' O' hx ⟨b, rfl, rfl⟩
      obtain ⟨n, hn, rfl⟩ := get_map (f := PyData.int) (l := [(endsL r rg).1, (endsL r rg).2]) hx
      refine ⟨[(4, .int n)], dgn 4, nrm ?_⟩
      refine set1 2 (dp_max2 B (dp_var 2) (dp_call c4 (hr.mono (by decide)) (by rfl) (da_cons (dp_var 4) da_nil) ⟨n, rfl, rfl⟩)) (ds_nil ⟨.dat (.int n), ?_, rfl⟩)
      rw [take_succ_snoc hn, List.foldl_append]; rfl
    · rintro ρ' O' ⟨b, rfl, rfl⟩
      refine ds_nil ⟨.dat (encT r), b, ?_, rfl⟩
      rw [take_succ_snoc hrr, List.foldl_append]; rfl
  · rintro ρ' O' ⟨a, b, rfl, rfl⟩
    rw [e0, List.length_map, List.take_length]
    exact ret1 (dp_var 2) rfl
theorem cal_fits (c1 : Cal P w K mg base "width_for" 7 ["web", "ranges"] (spP K R_widthfor)) (D : Df K mg "fits" "fits" (top 106) ["web", "width", "ranges"]) : Cal P w K mg base "fits" 8 ["web", "width", "ranges"] (spP K R_fits) := by
  refine cal_P (N := ["web", "width", "ranges"]) D sc_106 (by rintro ds d ⟨x, rg, k, _, _, rfl, _⟩; rfl) (by decide) (fun f cdv A outer s H E hr ds d h => ?_)
  obtain ⟨x, rg, k, hok, hb, rfl, rfl⟩ := h
  show DS _ _ [.dat (encW x), .dat (.int k), .dat (.list (rg.map encR))] [] _ _
  exact ret1 (dp_le (dp_call c1 hr (by rfl) (da_cons (dp_var 0) (da_cons (dp_var 2) da_nil)) ⟨x, rg, hok, hb, rfl, rfl⟩) (dp_var 1)) rfl
theorem cal_rangein (B : Bi mg) (c1 : Cal P w K mg base "numbers" 5 ["web"] (spP K R_numbers)) (c2 : Cal P w K mg base "out_numbers" 6 ["web"] (spP K R_outnumbers)) (D : Df K mg "range_in" "range_in" (top 107) ["web", "width"]) : Cal P w K mg base "range_in" 7 ["web", "width"] (spP K R_rangein) := by
  refine cal_P (N := ["web", "width", "half", "low", "high", "told", "number"]) D sc_107 (by rintro ds d ⟨x, k, _, _, _, _, _, rfl, _⟩; rfl) (by decide) (fun f cdv A outer s H E hr ds d h => ?_)
  obtain ⟨x, k, hok, hone, hsm, hk1, hk, rfl, rfl⟩ := h
  have hi2 := hok.i2
  have hdl := hok.dl
  have hol := hok.ol
  show DS _ _ [.dat (encW x), .dat (.int k), .un, .un, .un, .un, .un] [] _ _
  refine if1 (dt_neI (dp_ixT (dp_var 0) dp_int (d := .int x.ins) rfl) dp_int) (fun h => ?_) (fun _ => ?_)
  · rw [hone] at h; simp at h
  have eh : (1 : Int) * 2 ^ ((k : Int) - 1).toNat = 2 ^ (k - 1) := by rw [Int.one_mul]; congr 1; omega
  have ck : CShl 1 ((k : Int) - 1) := by
    have : (k : Int) - 1 = ((k - 1 : Nat) : Int) := by omega
    rw [this]; exact one_shl (by omega)
  refine set1 2 ((dp_shl dp_int (dp_sub (dp_var 1) dp_int) ck).is (congrArg PyData.int eh)) ?_
  refine set1 3 (dp_neg (dp_var 2)) ?_
  refine set1 4 (dp_sub (dp_var 2) dp_int) ?_
  have e0 : x.rows.map encT ++ x.outRows.map encT = (x.rows ++ x.outRows).map encT := by rw [List.map_append]
  generalize hh : (2 : Int) ^ (k - 1) = half at *
  refine ds_for (die_pure (di_list (dp_cat (dp_call c1 (hr.mono (by decide)) rfl (da_cons (dp_var 0) da_nil) ⟨x, hok, rfl, rfl⟩) (dp_call c2 hr rfl (da_cons (dp_var 0) da_nil) ⟨x, hok, rfl, rfl⟩) ?_)) ⟨fun i ρ' O' => ∃ a b, ρ' = [.dat (encW x), .dat (.int k), .dat (.int half), .dat (.int (rngL half (((x.rows ++ x.outRows).take i).map fun r => r.getD 0 0)).1), .dat (.int (rngL half (((x.rows ++ x.outRows).take i).map fun r => r.getD 0 0)).2), a, b] ∧ O' = [], ⟨_, _, rfl, rfl⟩, ?_, ?_⟩)
  · unfold Web.rows Web.outRows; rw [List.length_map, List.length_map, List.length_map, rows_len, sizeLine_eq]; omega
  · rintro i y ρ' O' hx ⟨a, b, rfl, rfl⟩
    rw [e0] at hx
    obtain ⟨r, hrr, rfl⟩ := get_map hx
    have hm := List.mem_of_getElem? hrr
    have hs := hsm r hm
    have hlen : 0 < r.length := by
      rcases List.mem_append.mp hm with q | q
      · rw [rows_width hok.ds r q, hone]; decide
      · obtain ⟨o, ho, rfl⟩ := List.mem_map.mp q
        obtain ⟨h1, _, _⟩ := out_facts hok ho
        have h2 : o.thing < x.rows.length := by unfold Web.rows; rw [rows_len]; exact h1
        unfold outRow shR
        rw [List.length_map, List.length_map, show (x.rows.getD o.thing []).length = x.ins from rows_width hok.ds _ (getD_mem h2), hone]; decide
    have hn := hs _ (getD_mem (z := 0) hlen)
    have lg : (r.getD 0 0).natAbs.log2 < 9000 := by
      by_cases z : (r.getD 0 0).natAbs = 0
      · rw [z]; decide
      · have := (Nat.log2_lt z).mpr hn; omega
    have tk : ((x.rows ++ x.outRows).take (i + 1)).map (fun r => r.getD 0 0) = ((x.rows ++ x.outRows).take i).map (fun r => r.getD 0 0) ++ [r.getD 0 0] := by rw [take_succ_snoc hrr]; simp
    have tk2 : rngL half (((x.rows ++ x.outRows).take (i + 1)).map fun r => r.getD 0 0) = rngF half (rngL half (((x.rows ++ x.outRows).take i).map fun r => r.getD 0 0)) (r.getD 0 0) := by
      unfold rngL; rw [tk, List.foldl_append]; rfl
    generalize rngL half (((x.rows ++ x.outRows).take i).map fun r => r.getD 0 0) = acc at *
    generalize hnn : r.getD 0 0 = n at *
    refine ⟨[(5, encT r)], dgn 5, nrm ?_⟩
    refine set1 6 (dp_ixT (dp_var 5) dp_int (d := .int n) (by rw [← hnn]; exact ints_at (a := 0) hlen)) ?_
    refine ds_if (mid := fun ρ' O' => ρ' = [.dat (encW x), .dat (.int k), .dat (.int half), .dat (.int (if n > 0 then mx acc.1 (-(half / n)) else acc.1)), .dat (.int (if n > 0 then mn acc.2 ((half - 1) / n) else acc.2)), .dat (encT r), .dat (.int n)] ∧ O' = []) (dte_pure (dt_gt (dp_var 6) dp_int) ⟨fun h => ?_, fun h => ?_⟩) ?_
    · have h0 : n > 0 := of_decide_eq_true h
      refine set1 3 (dp_max2 B (dp_var 3) (dp_neg (dp_div (dp_var 2) (dp_var 6) ⟨h0, lg⟩))) ?_
      refine set1 4 (dp_min2 B (dp_var 4) (dp_div (dp_sub (dp_var 2) dp_int) (dp_var 6) ⟨h0, lg⟩)) (ds_nil ⟨?_, rfl⟩)
      rw [if_pos h0, if_pos h0]; rfl
    · have h0 : ¬ n > 0 := of_decide_eq_false h
      refine ds_nil ⟨?_, rfl⟩
      rw [if_neg h0, if_neg h0]
    · rintro ρ' O' ⟨rfl, rfl⟩
      have h7 : (-n).natAbs.log2 < 9000 := by rw [Int.natAbs_neg]; exact lg
      refine ds_if (mid := fun ρ' O' => ρ' = [.dat (encW x), .dat (.int k), .dat (.int half), .dat (.int (rngF half acc n).1), .dat (.int (rngF half acc n).2), .dat (encT r), .dat (.int n)] ∧ O' = []) (dte_pure (dt_lt (dp_var 6) dp_int) ⟨fun h => ?_, fun h => ?_⟩) ?_
      · have h0 : n < 0 := of_decide_eq_true h
        have h1 : ¬ n > 0 := by omega
        refine set1 3 (dp_max2 B (dp_var 3) (dp_neg (dp_div (dp_sub (dp_var 2) dp_int) (dp_neg (dp_var 6)) ⟨by omega, h7⟩))) ?_
        refine set1 4 (dp_min2 B (dp_var 4) (dp_div (dp_var 2) (dp_neg (dp_var 6)) ⟨by omega, h7⟩)) (ds_nil ⟨?_, rfl⟩)
        unfold rngF
        rw [if_neg h1, if_neg h1, if_neg h1, if_pos h0]; rfl
      · have h0 : ¬ n < 0 := of_decide_eq_false h
        refine ds_nil ⟨?_, rfl⟩
        unfold rngF
        rw [if_neg h0]
        by_cases h1 : n > 0
        · rw [if_pos h1, if_pos h1, if_pos h1]
        · rw [if_neg h1, if_neg h1, if_neg h1]
      · rintro ρ' O' ⟨rfl, rfl⟩
        exact ds_nil ⟨.dat (encT r), .dat (.int n), by rw [tk2], rfl⟩
  · rintro ρ' O' ⟨a, b, rfl, rfl⟩
    rw [e0, List.length_map, List.take_length]
    refine ret1 (dp_tup (da_cons (dp_var 3) (da_cons (dp_var 4) da_nil))) ?_
    unfold rngW; rw [hh]; rfl
end
end SS
set_option maxHeartbeats 4000000
set_option exponentiation.threshold 100
/-! The walks, four: texts.py. -/
namespace SS
open PySem PySem.Spec PyProof.Rows L2
open SX (S)
def Tp (a : Nat) (s : Int) : Prop := a < 10 ^ 60 ∧ s.natAbs < 10 ^ 4
def Td (d : Deed) : Prop := Tp d.a d.s ∧ Tp d.b d.t
def To (o : Out) : Prop := o = noOut ∨ (Tp o.thing o.shift ∧ (o.sign = 1 ∨ o.sign = -1))
def R_figs (ds : List PyData) (d : PyData) : Prop := ∃ (n m : Nat), (nl n).length ≤ m ∧ m ≤ 600 ∧ ds = [.str (S (nl n)), .int m] ∧ d = .bool true
def R_ptext (ds : List PyData) (d : PyData) : Prop := ∃ (a : Nat) (s : Int), Tp a s ∧ ds = [.int a, .int s] ∧ d = .str (S (partL a s))
def R_rpart (ds : List PyData) (d : PyData) : Prop := ∃ (a : Nat) (s : Int), Tp a s ∧ ds = [.str (S (partL a s))] ∧ d = .tuple [.int a, .int s]
def signS (less : Bool) : Str := S [if less then 45 else 43]
def R_deedof (ds : List PyData) (d : PyData) : Prop := ∃ e : Deed, ds = [.str (signS e.less), .tuple [.int e.a, .int e.s], .tuple [.int e.b, .int e.t]] ∧ d = encD e
def R_rout (ds : List PyData) (d : PyData) : Prop := ∃ o : Out, To o ∧ ds = [.str (S (outL o))] ∧ d = encO o
def R_dline (ds : List PyData) (d : PyData) : Prop := ∃ e : Deed, Td e ∧ ds = [encD e] ∧ d = .str (S (deedL e))
def R_oline (ds : List PyData) (d : PyData) : Prop := ∃ o : Out, To o ∧ ds = [encO o] ∧ d = .str (S (outLine o))
def R_shown (ds : List PyData) (d : PyData) : Prop := ∃ x : Web, x.ok ∧ ds = [encW x] ∧ d = .str x.text
def R_rins (ds : List PyData) (d : PyData) : Prop := ∃ n : Nat, (1 ≤ n ∧ n ≤ 12) ∧ ds = [.str (S (insL n))] ∧ d = .int n
def R_rdeed (ds : List PyData) (d : PyData) : Prop := (∃ e : Deed, Td e ∧ ds = [.str (S (deedL e))] ∧ d = encD e) ∨ ∃ o : Out, To o ∧ ds = [.str (S (outLine o))] ∧ d = .none
def R_rlast (ds : List PyData) (d : PyData) : Prop := (∃ e : Deed, Td e ∧ ds = [.str (S (deedL e))] ∧ d = .none) ∨ ∃ o : Out, To o ∧ ds = [.str (S (outLine o))] ∧ d = encO o
def R_read (ds : List PyData) (d : PyData) : Prop := ∃ x : Web, x.ok ∧ ds = [.str x.text] ∧ d = encW x
section
variable {X : Cx} {δ : Dl} {x : Str} {a b : Expr} {pos p0 : Pos} {k : Nat} {p q : List Nat}
theorem dp_lit {kk} (l : List Nat) (h : x = S l := by kernel_rfl) : DP X (.Constant (.str x) kk pos) δ (.str (S l)) := dp_str.is (by rw [h])
theorem dp_addL (ha : DP X a δ (.str (S p))) (hb : DP X b δ (.str (S q))) (h : p.length + q.length ≤ 100000) : DP X (.BinOp a .Add b pos) δ (.str (S (p ++ q))) := (dp_adds ha hb (by rw [SX.S_len, SX.S_len, sizeLine_eq]; omega)).is (by rw [SX.S_cat])
theorem log_lt {n k : Nat} (hk : 0 < k) (h : n < 2 ^ k) : n.log2 < k := by
  by_cases z : n = 0
  · rw [z]; simpa using hk
  · exact (Nat.log2_lt z).mpr h
theorem log1920 {n : Int} (h : n.natAbs < 10 ^ 60) : n.natAbs.log2 < 1920 := log_lt (by decide) (Nat.lt_of_lt_of_le h (by decide))
theorem dp_strN {n : Nat} (B : Bi X.mg) (h : DP X a δ (.int n)) (hn : n < 10 ^ 60) (hg : Gl X "str" := by rfl) (he : starEach [a] X.env = [(false, eval a X.env)] := by rfl) : DP X (.Call (.Name "str" p0) [a] [] pos) δ (.str (S (nl n))) := (dp_strI B h (log1920 (by simpa using hn)) hg he).is (by rw [num_str])
theorem dp_strZ {n : Int} (B : Bi X.mg) (h : DP X a δ (.int n)) (h0 : 0 ≤ n) (hn : n.natAbs < 10 ^ 60) (hg : Gl X "str" := by rfl) (he : starEach [a] X.env = [(false, eval a X.env)] := by rfl) : DP X (.Call (.Name "str" p0) [a] [] pos) δ (.str (S (nl n.toNat))) := (dp_strI B h (log1920 hn) hg he).is (by rw [num_strI h0])
end
theorem sw_S {p y : List Nat} : Txt.startswith (S p) (S y) = decide (y.length ≤ p.length ∧ p.take y.length = y) := by
  unfold Txt.startswith
  rw [StrLaws.subAt_eq, SX.S_len, SX.S_len]
  simp [Bool.decide_and]
  rw [Bool.eq_iff_iff]; simp
theorem sw_no {p y : List Nat} (h : p.head? ≠ y.head?) (hy : y ≠ []) : Txt.startswith (S p) (S y) = false := by
  rw [sw_S]
  refine decide_eq_false fun ⟨h1, h2⟩ => h ?_
  obtain ⟨c, r, rfl⟩ := List.exists_cons_of_ne_nil hy
  cases p with
  | nil => simp at h1
  | cons x p => simp at h2; rw [h2.1]; rfl
theorem sw_yes {p y : List Nat} : Txt.startswith (S (y ++ p)) (S y) = true := by
  rw [sw_S]; simp
theorem S_eq {p q : List Nat} : (S p = S q) ↔ p = q := ⟨SX.S_inj, fun h => by rw [h]⟩
theorem part_head {a : Nat} {s : Int} {c : Nat} (h : (partL a s).head? = some c) : 48 ≤ c ∧ c ≤ 57 := by
  unfold partL at h
  obtain ⟨x, r, hx⟩ := List.exists_cons_of_ne_nil (TL.numL_ne a)
  rw [show nl a = x :: r from hx, List.cons_append, List.head?_cons] at h
  cases h
  exact nl_dig (n := a) (by rw [show nl a = c :: r from hx]; exact List.mem_cons_self)
section
variable {P : Program} {w : World} {K : PySem.W.Frag} {mg : Str → Option Value} {base : Heap}
theorem sc_30 : FnScope ["text", "most", "sign"] ["text", "most"] (defScope (top 30)) := ⟨rfl, rfl, rfl, by decide +kernel, rfl, by decide +kernel, by decide +kernel⟩
theorem sc_31 : FnScope ["thing", "shift"] ["thing", "shift"] (defScope (top 31)) := ⟨rfl, rfl, rfl, by decide +kernel, rfl, by decide +kernel, by decide +kernel⟩
theorem sc_32 : FnScope ["text", "sign", "by", "at", "shift"] ["text"] (defScope (top 32)) := ⟨rfl, rfl, rfl, by decide +kernel, rfl, by decide +kernel, by decide +kernel⟩
theorem sc_33 : FnScope ["sign", "one", "other", "word"] ["sign", "one", "other"] (defScope (top 33)) := ⟨rfl, rfl, rfl, by decide +kernel, rfl, by decide +kernel, by decide +kernel⟩
theorem sc_35 : FnScope ["text", "sign", "part"] ["text"] (defScope (top 35)) := ⟨rfl, rfl, rfl, by decide +kernel, rfl, by decide +kernel, by decide +kernel⟩
theorem sc_36 : FnScope ["deed", "word", "a", "s", "b", "t", "sign"] ["deed"] (defScope (top 36)) := ⟨rfl, rfl, rfl, by decide +kernel, rfl, by decide +kernel, by decide +kernel⟩
theorem sc_37 : FnScope ["out", "thing", "shift", "sign"] ["out"] (defScope (top 37)) := ⟨rfl, rfl, rfl, by decide +kernel, rfl, by decide +kernel, by decide +kernel⟩
theorem sc_38 : FnScope ["web", "ins", "deeds", "outs", "lines", "deed", "out"] ["web"] (defScope (top 38)) := ⟨rfl, rfl, rfl, by decide +kernel, rfl, by decide +kernel, by decide +kernel⟩
theorem sc_39 : FnScope ["line"] ["line"] (defScope (top 39)) := ⟨rfl, rfl, rfl, by decide +kernel, rfl, by decide +kernel, by decide +kernel⟩
theorem sc_40 : FnScope ["line", "words", "one", "other"] ["line"] (defScope (top 40)) := ⟨rfl, rfl, rfl, by decide +kernel, rfl, by decide +kernel, by decide +kernel⟩
theorem sc_41 : FnScope ["line", "words"] ["line"] (defScope (top 41)) := ⟨rfl, rfl, rfl, by decide +kernel, rfl, by decide +kernel, by decide +kernel⟩
theorem sc_42 : FnScope ["text", "lines", "ins", "told", "deeds", "outs", "k", "deed", "out", "found"] ["text"] (defScope (top 42)) := ⟨rfl, rfl, rfl, by decide +kernel, rfl, by decide +kernel, by decide +kernel⟩
theorem all_true {l : List Nat} (h : ∀ c ∈ l, 48 ≤ c ∧ c ≤ 57) : (l.map fun c => decide (c ∈ (Str.ofString "0123456789").cps.toList)).all id = true := by
  have e : (Str.ofString "0123456789").cps.toList = [48, 49, 50, 51, 52, 53, 54, 55, 56, 57] := by decide +kernel
  rw [e, List.all_map]
  refine List.all_eq_true.mpr fun c hc => ?_
  have := h c hc
  simp; omega
theorem cal_figs (B : Bi mg) (gf : GS mg "FIGURES" "0123456789") (D : Df K mg "is_figures" "is_figures" (top 30) ["text", "most"]) : Cal P w K mg base "is_figures" 1 ["text", "most"] (spP K R_figs) := by
  refine cal_P (N := ["text", "most", "sign"]) D sc_30 (by rintro ds d ⟨n, m, _, _, rfl, _⟩; rfl) (by decide) (fun f cdv A outer s H E hr ds d h => ?_)
  obtain ⟨n, m, h1, h2, rfl, rfl⟩ := h
  show DS _ _ [.dat (.str (S (nl n))), .dat (.int m), .un] [] _ _
  have hne : nl n ≠ [] := TL.numL_ne n
  have hl : (S (nl n)).length ≤ sizeLine := by rw [SX.S_len, sizeLine_eq]; omega
  refine if1 (dt_w (dw_or (dt_eqS (dp_var 0) (dp_lit [])) fun _ => dw_or (dt_gt (dp_lenS B (dp_var 0) hl) (dp_var 1)) fun _ => dw_or1 (dt_not (dt_val (dp_all (ns := (nl n).map fun c => decide (c ∈ (Str.ofString "0123456789").cps.toList)) B (lcp [("sign", 2)] (nl n) (fun c => .str ⟨#[c]⟩) (fun c => .bool (decide (c ∈ (Str.ofString "0123456789").cps.toList))) (fun c => [(2, .str ⟨#[c]⟩)]) ?_ (fun x _ s H C cl fp => dgn 2) (fun c hc s H C cl fp => ?_) (by rw [List.map_map]; rfl) (by omega))))))) (fun h => ?_) (fun _ => ?_)
  · exact di_str (z := S (nl n)) (dp_var 0)
  · exact dp_inC (dp_var 2) (dp_globS gf)
  · rw [all_true (fun c hc => nl_dig hc), SX.S_len] at h
    have : ¬ S (nl n) = S [] := fun e => hne (S_eq.mp e)
    simp only [this, decide_false, Bool.false_or, Bool.not_true, Bool.or_false, decide_eq_true_eq] at h
    omega
  · obtain ⟨c, r, hc⟩ := List.exists_cons_of_ne_nil hne
    refine ret1 (dp_or (p := decide (S (nl n) = S [48])) (q := !decide ((⟨#[c]⟩ : Str) = S [48])) (dp_eqS (dp_var 0) (dp_lit [48])) fun _ => dp_one (dp_neS (dp_ixS (dp_var 0) dp_int hl (by rw [show (S (nl n)).cps.toList = nl n by simp, hc]; exact atI_nat (i := 0) rfl)) (dp_lit [48]))) ?_
    by_cases hz : n = 0
    · rw [hz]; show SV.dat (.bool (decide (S (nl 0) = S [48]) || _)) = _
      rw [nl_0]; simp
    · have : ¬ c = 48 := fun e => hz (nl_zero (by rw [hc, e]; rfl))
      have h3 : ¬ (⟨#[c]⟩ : Str) = S [48] := fun e => this (by have := S_eq.mp (show S [c] = S [48] from e); simpa using this)
      rw [decide_eq_false h3]; simp
theorem cal_ptext (B : Bi mg) (D : Df K mg "part_text" "part_text" (top 31) ["thing", "shift"]) : Cal P w K mg base "part_text" 1 ["thing", "shift"] (spP K R_ptext) := by
  refine cal_P (N := ["thing", "shift"]) D sc_31 (by rintro ds d ⟨n, m, _, rfl, _⟩; rfl) (by decide) (fun f cdv A outer s H E hr ds d h => ?_)
  obtain ⟨a, s, ⟨h1, h2⟩, rfl, rfl⟩ := h
  show DS _ _ [.dat (.int a), .dat (.int s)] [] _ _
  have la := nl_len (by decide) h1
  have big : s.natAbs < 10 ^ 60 := Nat.lt_of_lt_of_le h2 (by decide)
  refine if1 (dt_gt (dp_var 1) dp_int) (fun h => ?_) (fun h => ?_)
  · have h0 : s > 0 := of_decide_eq_true h
    have ls := nl_len (n := s.toNat) (k := 4) (by decide) (by omega)
    refine ret1 (dp_addL (dp_addL (dp_strN B (dp_var 0) h1) (dp_lit [60, 60]) (by simp; omega)) (dp_strZ B (dp_var 1) (by omega) big) (by simp; omega)) ?_
    unfold partL; rw [if_pos h0]; simp
  · have h0 : ¬ s > 0 := of_decide_eq_false h
    refine if1 (dt_lt (dp_var 1) dp_int) (fun h => ?_) (fun h => ?_)
    · have h3 : s < 0 := of_decide_eq_true h
      have ls := nl_len (n := (-s).toNat) (k := 4) (by decide) (by omega)
      refine ret1 (dp_addL (dp_addL (dp_strN B (dp_var 0) h1) (dp_lit [62, 62]) (by simp; omega)) (dp_strZ B (dp_neg (dp_var 1)) (by omega) (by rw [Int.natAbs_neg]; exact big)) (by simp; omega)) ?_
      unfold partL; rw [if_neg h0, if_pos h3]; simp
    · have h3 : ¬ s < 0 := of_decide_eq_false h
      refine ret1 (dp_strN B (dp_var 0) h1) ?_
      unfold partL; rw [if_neg h0, if_neg h3]; simp

theorem int_at {n : Nat} (h : (nl n).length ≤ 640) {X : Cx} {δ : Dl} {a : Expr} {p0 pos : Pos} (B : Bi X.mg) (ha : DP X a δ (.str (S (nl n)))) (hg : Gl X "int" := by rfl) (he : starEach [a] X.env = [(false, eval a X.env)] := by rfl) : DP X (.Call (.Name "int" p0) [a] [] pos) δ (.int n) := dp_intS B ha (nl_read h) (by rw [SX.S_len]; exact h) hg he
theorem part_hit {c a : Nat} {e s : Int} (h : (c = 60 ∧ e = 1) ∨ (c = 62 ∧ e = -1)) (hs : e * s > 0) : partL a s = nl a ++ (c :: [c] ++ nl (e * s).toNat) := by
  unfold partL
  rcases h with ⟨rfl, rfl⟩ | ⟨rfl, rfl⟩
  · rw [if_pos (by omega), show (1 : Int) * s = s by omega]; rfl
  · rw [if_neg (by omega), if_pos (by omega), show (-1 : Int) * s = -s by omega]; rfl
theorem part_miss {c a : Nat} {e s : Int} (h : (c = 60 ∧ e = 1) ∨ (c = 62 ∧ e = -1)) (hs : ¬ e * s > 0) : c ∉ partL a s := fun hm => by
  have hc : ∀ n, c ∉ nl n := fun n => nl_not (.inr (by omega))
  unfold partL at hm
  rcases List.mem_append.mp hm with q | q
  · exact hc a q
  · split at q
    · simp only [List.mem_cons] at q
      rcases q with q | q | q
      · rcases h with ⟨rfl, rfl⟩ | ⟨rfl, rfl⟩ <;> omega
      · rcases h with ⟨rfl, rfl⟩ | ⟨rfl, rfl⟩ <;> omega
      · exact hc _ q
    · split at q
      · simp only [List.mem_cons] at q
        rcases q with q | q | q
        · rcases h with ⟨rfl, rfl⟩ | ⟨rfl, rfl⟩ <;> omega
        · rcases h with ⟨rfl, rfl⟩ | ⟨rfl, rfl⟩ <;> omega
        · exact hc _ q
      · cases q
theorem cal_rpart (B : Bi mg) (c1 : Cal P w K mg base "is_figures" 1 ["text", "most"] (spP K R_figs)) (D : Df K mg "read_part" "read_part" (top 32) ["text"]) : Cal P w K mg base "read_part" 2 ["text"] (spP K R_rpart) := by
  refine cal_P (N := ["text", "sign", "by", "at", "shift"]) D sc_32 (by rintro ds d ⟨n, m, _, rfl, _⟩; rfl) (by decide) (fun f cdv A outer sh H E hr ds d h => ?_)
  obtain ⟨a, s, ⟨h1, h2⟩, rfl, rfl⟩ := h
  have pl := part_len h1 h2
  have la := nl_len (by decide) h1
  have hl : (S (partL a s)).length ≤ sizeLine := by rw [SX.S_len, sizeLine_eq]; omega
  show DS _ _ [.dat (.str (S (partL a s))), .un, .un, .un, .un] [] _ _
  refine ds_for (die_pure (di_tup (dp_tup (da_cons (dp_tup (da_cons (dp_lit [60, 60]) (da_cons dp_int da_nil))) (da_cons (dp_tup (da_cons (dp_lit [62, 62]) (da_cons (dp_neg dp_int) da_nil))) da_nil)))) ⟨fun i ρ' O' => (∃ b c d e, ρ' = [.dat (.str (S (partL a s))), b, c, d, e]) ∧ O' = [] ∧ (1 ≤ i → ¬ s > 0) ∧ (2 ≤ i → ¬ s < 0), ⟨⟨_, _, _, _, rfl⟩, rfl, by omega, by omega⟩, ?_, ?_⟩)
  · rintro i y ρ' O' hx ⟨⟨b, c', d, e', rfl⟩, rfl, i1, i2⟩
    obtain ⟨c, e, rfl, hce⟩ : ∃ (c : Nat) (e : Int), y = .tuple [.str (S [c, c]), .int e] ∧ ((i = 0 ∧ c = 60 ∧ e = 1) ∨ (i = 1 ∧ c = 62 ∧ e = -1)) := by
      rcases i with _ | _ | i
      · cases hx; exact ⟨60, 1, rfl, .inl ⟨rfl, rfl, rfl⟩⟩
      · cases hx; exact ⟨62, -1, rfl, .inr ⟨rfl, rfl, rfl⟩⟩
      · simp at hx
    have hc : (c = 60 ∧ e = 1) ∨ (c = 62 ∧ e = -1) := hce.imp (·.2) (·.2)
    refine ⟨_, dg_tup rfl (dgs_cons (dgn 1) (dgs_cons (dgn 2) dgs_nil)), nrm ?_⟩
    by_cases hs : e * s > 0
    · have e1 := part_hit (a := a) hc hs
      have hcn : c ∉ nl a := nl_not (.inr (by omega))
      have hm : (e * s).toNat < 10 ^ 4 := by rcases hc with ⟨_, rfl⟩ | ⟨_, rfl⟩ <;> omega
      have hm0 : (e * s).toNat ≠ 0 := by omega
      have hms : e * ((e * s).toNat : Nat) = s := by rcases hc with ⟨_, rfl⟩ | ⟨_, rfl⟩ <;> omega
      generalize (e * s).toNat = m at *
      have ls := nl_len (n := m) (k := 4) (by decide) hm
      have e2 : Txt.find (S (partL a s)) (S [c, c]) = (nl a).length := by rw [e1]; exact find_app hcn
      have x1 : cutS (S (partL a s)) (some (((nl a).length : Int) + 2)) none = S (nl m) := by
        rw [e1, show nl a ++ (c :: [c] ++ nl m) = (nl a ++ [c, c]) ++ nl m by simp]; exact cut_from (by simp)
      have x2 : cutS (S (partL a s)) none (some ((nl a).length : Int)) = S (nl a) := by rw [e1]; exact cut_to rfl
      refine set1 3 ((dp_find (dp_var 0) (dp_var 1)).is (by rw [e2])) ?_
      refine if1 (dt_ge (dp_var 3) dp_int) (fun _ => ?_) (fun h => ?_)
      · refine set1 4 ((dp_slS (dp_var 0) (do_some (dp_add (dp_var 3) dp_int)) do_none hl).is (by rw [x1])) ?_
        refine if1 (dt_w (dw_or (dt_not (dt_val (dp_call c1 hr rfl (da_cons ((dp_slS (dp_var 0) do_none (do_some (dp_var 3)) hl).is (by rw [x2])) (da_cons dp_int da_nil)) ⟨a, 60, la, by decide, rfl, rfl⟩))) fun _ => dw_or (dt_not (dt_val (dp_call c1 hr (by rfl) (da_cons (dp_var 4) (da_cons dp_int da_nil)) ⟨m, 4, ls, by decide, rfl, rfl⟩))) fun _ => dw_or1 (dt_eqS (dp_var 4) (dp_lit [48])))) (fun h => ?_) (fun _ => ?_)
        · have : ¬ S (nl m) = S [48] := fun z => nl_len1 hm0 (S_eq.mp z)
          rw [decide_eq_false this] at h; cases h
        · refine ret1 (dp_tup (da_cons (int_at (n := a) (by omega) B ((dp_slS (dp_var 0) do_none (do_some (dp_var 3)) hl).is (by rw [x2]))) (da_cons (dp_mul (dp_var 2) (int_at (n := m) (by omega) B (dp_var 4)) ?_) da_nil))) ?_
          · exact mulx_ok (a := 2) (b := 14) (by rcases hc with ⟨_, rfl⟩ | ⟨_, rfl⟩ <;> decide) (by omega) (by decide)
          · rw [hms]
      · have := of_decide_eq_false h; omega
    · have e2 : Txt.find (S (partL a s)) (S [c, c]) = -1 := find_none (part_miss hc hs)
      refine set1 3 ((dp_find (dp_var 0) (dp_var 1)).is (by rw [e2])) ?_
      refine if1 (dt_ge (dp_var 3) dp_int) (fun h => by cases h) (fun _ => ds_nil ⟨⟨_, _, _, _, rfl⟩, rfl, ?_, ?_⟩)
      · intro _
        rcases hce with ⟨_, _, rfl⟩ | ⟨h0, _, rfl⟩
        · omega
        · exact i1 (by omega)
      · intro h3
        rcases hce with ⟨h0, _, rfl⟩ | ⟨h0, _, rfl⟩
        · omega
        · omega
  · rintro ρ' O' ⟨⟨b, c, d, e, rfl⟩, rfl, i1, i2⟩
    have hs0 : s = 0 := by have := i1 (by decide); have := i2 (by decide); omega
    have e1 : partL a s = nl a := by unfold partL; rw [hs0]; simp
    rw [e1]
    refine if1 (dt_not (dt_val (dp_call c1 hr rfl (da_cons (dp_var 0) (da_cons dp_int da_nil)) ⟨a, 60, la, by decide, rfl, rfl⟩))) (fun h => by cases h) (fun _ => ?_)
    refine ret1 (dp_tup (da_cons (int_at (n := a) (by omega) B (dp_var 0)) (da_cons dp_int da_nil))) ?_
    rw [hs0]

theorem cal_deedof (D : Df K mg "deed_of_texts" "deed_of" (top 33) ["sign", "one", "other"]) : Cal P w K mg base "deed_of_texts" 1 ["sign", "one", "other"] (spP K R_deedof) := by
  refine cal_P (N := ["sign", "one", "other", "word"]) D sc_33 (by rintro ds d ⟨e, rfl, _⟩; rfl) (by decide) (fun f cdv A outer sh H E hr ds d h => ?_)
  obtain ⟨e, rfl, rfl⟩ := h
  show DS _ _ [.dat (.str (signS e.less)), .dat (.tuple [.int e.a, .int e.s]), .dat (.tuple [.int e.b, .int e.t]), .un] [] _ _
  have hu := hr.units
  refine set1 3 (d := .str (wordOf e.less)) (dp_disp2 (K1 := .inr (S [43])) (K2 := .inr (S [45])) (Kx := .inr (signS e.less)) (d1 := .str (wordOf false)) (d2 := .str (wordOf true)) (by omega) (dp_lit [43]) dp_str (dp_lit [45]) dp_str (dp_var 0) (by decide) ?_) ?_
  · cases e.less
    · exact .inl ⟨rfl, rfl⟩
    · exact .inr ⟨rfl, rfl⟩
  exact ret1 (dp_tup (da_cons (dp_var 3) (da_cons (dp_ixT (dp_var 1) dp_int rfl) (da_cons (dp_ixT (dp_var 1) dp_int rfl) (da_cons (dp_ixT (dp_var 2) dp_int rfl) (da_cons (dp_ixT (dp_var 2) dp_int rfl) da_nil)))))) rfl
theorem outL_none {o : Out} (h : To o) : outL o = [110, 111, 110, 101] ↔ o = noOut := by
  constructor
  · intro e
    rcases h with h | ⟨_, h⟩
    · exact h
    · unfold outL at e
      rw [if_neg (by omega)] at e
      rcases h with h | h
      · rw [if_neg (by omega)] at e
        have := part_head (a := o.thing) (s := o.shift) (c := 110) (by rw [show partL o.thing o.shift = _ from e]; rfl)
        omega
      · rw [if_pos h] at e; cases e
  · rintro rfl; rfl
theorem cal_rout (B : Bi mg) (c1 : Cal P w K mg base "read_part" 2 ["text"] (spP K R_rpart)) (D : Df K mg "read_out" "read_out" (top 35) ["text"]) : Cal P w K mg base "read_out" 3 ["text"] (spP K R_rout) := by
  refine cal_P (N := ["text", "sign", "part"]) D sc_35 (by rintro ds d ⟨n, _, rfl, _⟩; rfl) (by decide) (fun f cdv A outer sh H E hr ds d h => ?_)
  obtain ⟨o, ho, rfl, rfl⟩ := h
  show DS _ _ [.dat (.str (S (outL o))), .un, .un] [] _ _
  refine if1 (dt_eqS (dp_var 0) (dp_lit [110, 111, 110, 101])) (fun h => ?_) (fun h => ?_)
  · have h := (outL_none ho).mp (S_eq.mp (of_decide_eq_true h))
    rw [h]
    exact ret1 (dp_tup (da_cons dp_int (da_cons dp_int (da_cons dp_int da_nil)))) rfl
  · have hn : ¬ o = noOut := fun e => (of_decide_eq_false h) (S_eq.mpr ((outL_none ho).mpr e))
    obtain ⟨hT, hs⟩ := ho.resolve_left hn
    have pl := part_len hT.1 hT.2
    refine set1 1 dp_int ?_
    refine ds_if (mid := fun ρ' O' => ρ' = [.dat (.str (S (partL o.thing o.shift))), .dat (.int o.sign), .un] ∧ O' = []) (dte_pure (dt_val (dp_startswith (dp_var 0) (dp_lit [45]))) ⟨fun h => ?_, fun h => ?_⟩) ?_
    · have hneg : o.sign = -1 := by
        rcases hs with q | q
        · exfalso
          have e : outL o = partL o.thing o.shift := by unfold outL; rw [if_neg (by omega), if_neg (by omega)]; rfl
          rw [e, sw_no _ (by simp)] at h
          · cases h
          · intro e2
            have := part_head (a := o.thing) (s := o.shift) (c := 45) e2
            omega
        · exact q
      have e : outL o = [45] ++ partL o.thing o.shift := by unfold outL; rw [if_neg (by omega), if_pos hneg]
      rw [e]
      refine set1 1 (dp_neg dp_int) ?_
      refine set1 0 ((dp_slS (dp_var 0) (do_some dp_int) do_none (by rw [SX.S_len, sizeLine_eq]; simp; omega)).is (congrArg PyData.str (cut_from (p := [45]) (q := partL o.thing o.shift) (i := 1) (by rfl)))) (ds_nil ⟨?_, rfl⟩)
      rw [hneg]
    · have hpos : o.sign = 1 := by
        rcases hs with q | q
        · exact q
        · exfalso
          have e : outL o = [45] ++ partL o.thing o.shift := by unfold outL; rw [if_neg (by omega), if_pos q]
          rw [e, sw_yes] at h; cases h
      have e : outL o = partL o.thing o.shift := by unfold outL; rw [if_neg (by omega), if_neg (by omega)]; rfl
      rw [e, hpos]
      exact ds_nil ⟨rfl, rfl⟩
    · rintro ρ' O' ⟨rfl, rfl⟩
      refine set1 2 (dp_call c1 hr rfl (da_cons (dp_var 0) da_nil) ⟨o.thing, o.shift, hT, rfl, rfl⟩) ?_
      refine if1 (dt_isN (dp_var 2)) (fun h => by cases h) (fun _ => ?_)
      exact ret1 (dp_tup (da_cons (dp_ixT (dp_var 2) dp_int rfl) (da_cons (dp_ixT (dp_var 2) dp_int rfl) (da_cons (dp_var 1) da_nil)))) rfl
theorem cal_dline (c1 : Cal P w K mg base "part_text" 1 ["thing", "shift"] (spP K R_ptext)) (D : Df K mg "deed_line" "deed_line" (top 36) ["deed"]) : Cal P w K mg base "deed_line" 2 ["deed"] (spP K R_dline) := by
  refine cal_P (N := ["deed", "word", "a", "s", "b", "t", "sign"]) D sc_36 (by rintro ds d ⟨n, _, rfl, _⟩; rfl) (by decide) (fun f cdv A outer sh H E hr ds d h => ?_)
  obtain ⟨e, ⟨h1, h2⟩, rfl, rfl⟩ := h
  show DS _ _ [.dat (encD e), .un, .un, .un, .un, .un, .un] [] _ _
  have hu := hr.units
  have p1 := part_len h1.1 h1.2
  have p2 := part_len h2.1 h2.2
  refine tup1 (dp_var 0) (dg_tup rfl (dgs_cons (dgn 1) (dgs_cons (dgn 2) (dgs_cons (dgn 3) (dgs_cons (dgn 4) (dgs_cons (dgn 5) dgs_nil)))))) ?_
  refine set1 6 (d := .str (S [32, if e.less then 45 else 43, 32])) (dp_disp2 (K1 := .inr (wordOf false)) (K2 := .inr (wordOf true)) (Kx := .inr (wordOf e.less)) (d1 := .str (S [32, 43, 32])) (d2 := .str (S [32, 45, 32])) (by omega) dp_str (dp_lit _) dp_str (dp_lit _) (dp_var 1) (by decide) ?_) ?_
  · cases e.less
    · exact .inl ⟨rfl, rfl⟩
    · exact .inr ⟨rfl, rfl⟩
  refine ret1 (dp_addL (dp_addL (dp_call c1 hr rfl (da_cons (dp_var 2) (da_cons (dp_var 3) da_nil)) ⟨e.a, e.s, h1, rfl, rfl⟩) (dp_var 6) (by simp; omega)) (dp_call c1 hr rfl (da_cons (dp_var 4) (da_cons (dp_var 5) da_nil)) ⟨e.b, e.t, h2, rfl, rfl⟩) (by simp; omega)) ?_
  unfold deedL; simp
theorem cal_oline (c1 : Cal P w K mg base "part_text" 1 ["thing", "shift"] (spP K R_ptext)) (D : Df K mg "out_line" "out_line" (top 37) ["out"]) : Cal P w K mg base "out_line" 2 ["out"] (spP K R_oline) := by
  refine cal_P (N := ["out", "thing", "shift", "sign"]) D sc_37 (by rintro ds d ⟨n, _, rfl, _⟩; rfl) (by decide) (fun f cdv A outer sh H E hr ds d h => ?_)
  obtain ⟨o, ho, rfl, rfl⟩ := h
  show DS _ _ [.dat (encO o), .un, .un, .un] [] _ _
  have hu := hr.units
  refine tup1 (dp_var 0) (dg_tup rfl (dgs_cons (dgn 1) (dgs_cons (dgn 2) (dgs_cons (dgn 3) dgs_nil)))) ?_
  refine if1 (dt_eqI (dp_var 3) dp_int) (fun h => ?_) (fun h => ?_)
  · have h0 : o.sign = 0 := of_decide_eq_true h
    refine ret1 (dp_lit [111, 117, 116, 32, 110, 111, 110, 101]) ?_
    unfold outLine outL; rw [if_pos h0]; rfl
  · have h0 : ¬ o.sign = 0 := of_decide_eq_false h
    have hn : ¬ o = noOut := fun e => h0 (by rw [e]; rfl)
    obtain ⟨hT, hs⟩ := ho.resolve_left hn
    have p1 := part_len hT.1 hT.2
    refine ret1 (dp_addL (p := [111, 117, 116, 32] ++ if o.sign = -1 then [45] else []) (q := partL o.thing o.shift) (dp_addL (dp_lit [111, 117, 116, 32]) (dp_disp2 (K1 := .inl 1) (K2 := .inl (-1)) (Kx := .inl o.sign) (d1 := .str (S [])) (d2 := .str (S [45])) (by omega) dp_int (dp_lit []) (dp_neg dp_int) (dp_lit [45]) (dp_var 3) (by decide) ?_) (by split <;> simp)) (dp_call c1 hr rfl (da_cons (dp_var 1) (da_cons (dp_var 2) da_nil)) ⟨o.thing, o.shift, hT, rfl, rfl⟩) ?_) ?_
    · rcases hs with q | q <;> rw [q]
      · exact .inl ⟨rfl, rfl⟩
      · exact .inr ⟨rfl, rfl⟩
    · split <;> simp <;> omega
    · unfold outLine outL; rw [if_neg h0]; simp

theorem Web.ok.td {x : Web} (h : x.ok) : ∀ d ∈ x.deeds, Td d := fun d hd => by
  obtain ⟨i, hi, rfl⟩ := List.mem_iff_getElem.mp hd
  have hD := okDs_at h.ds (List.getElem?_eq_getElem hi)
  have hL : (grow stepR (unitRows x.ins) (x.deeds.take i)).length ≤ 72 := by rw [grow_len, unitRows_len, List.length_take]; have := h.i2; have := h.dl; omega
  have big : 72 < 10 ^ 60 := by decide
  exact ⟨⟨Nat.lt_trans (Nat.lt_of_lt_of_le hD.1 hL) big, by have := hD.2.2.1; omega⟩, ⟨Nat.lt_trans (Nat.lt_of_lt_of_le hD.2.1 hL) big, by have := hD.2.2.2.1; omega⟩⟩
theorem Web.ok.to {x : Web} (h : x.ok) : ∀ o ∈ x.outs, To o := fun o ho => by
  rcases h.os o ho with q | ⟨h1, h2, _, h4⟩
  · exact .inl q
  · have hL : x.rows.length ≤ 72 := by unfold Web.rows; rw [rows_len]; have := h.i2; have := h.dl; omega
    have big : 72 < 10 ^ 60 := by decide
    exact .inr ⟨⟨Nat.lt_trans (Nat.lt_of_lt_of_le h1 hL) big, by omega⟩, h4⟩
theorem insL_len {n : Nat} (h : n ≤ 12) : (insL n).length ≤ 200 := by unfold insL; have := nl_len (n := n) (k := 2) (by decide) (by omega); simp; omega
theorem deedL_len {d : Deed} (h : Td d) : (deedL d).length ≤ 200 := by
  unfold deedL; have := part_len h.1.1 h.1.2; have := part_len h.2.1 h.2.2; simp; omega
theorem outL_len {o : Out} (h : To o) : (outLine o).length ≤ 200 := by
  unfold outLine outL
  rcases h with rfl | ⟨h, _⟩
  · simp [noOut]
  · have := part_len h.1 h.2
    split
    · simp
    · split <;> simp <;> omega
theorem Web.ok.lines {x : Web} (h : x.ok) : ∀ l ∈ x.linesL, l.length ≤ 200 := fun l hl => by
  unfold Web.linesL at hl
  rcases List.mem_cons.mp hl with e | hl
  · rw [e]; exact insL_len h.i2
  · rcases List.mem_append.mp hl with q | q
    · obtain ⟨d, hd, rfl⟩ := List.mem_map.mp q; exact deedL_len (h.td d hd)
    · obtain ⟨o, ho, rfl⟩ := List.mem_map.mp q; exact outL_len (h.to o ho)
theorem sum_le {B : Nat} : ∀ {l : List Nat}, (∀ x ∈ l, x ≤ B) → l.sum ≤ B * l.length
  | [], _ => by simp
  | x :: l, h => by
    have := sum_le fun y hy => h y (List.mem_cons_of_mem _ hy)
    have := h x List.mem_cons_self
    rw [List.sum_cons, List.length_cons, Nat.mul_succ]; omega
theorem Web.ok.nlines {x : Web} (h : x.ok) : x.linesL.length ≤ 73 := by unfold Web.linesL; simp; have := h.dl; have := h.ol; omega
theorem joinL_len {sep : List Nat} : ∀ l : List (List Nat), (TL.joinL sep l).length ≤ (l.map (·.length)).sum + l.length * sep.length
  | [] => by simp [TL.joinL]
  | [p] => by simp [TL.joinL]
  | p :: q :: r => by
    have := joinL_len (sep := sep) (q :: r)
    show (p ++ (sep ++ TL.joinL sep (q :: r))).length ≤ _
    rw [List.length_append, List.length_append, List.map_cons, List.sum_cons, List.length_cons, Nat.succ_mul]
    omega
theorem Web.ok.sums {x : Web} (h : x.ok) : (x.linesL.map (·.length)).sum ≤ 14600 := by
  refine Nat.le_trans (sum_le (B := 200) fun y hy => ?_) (by rw [List.length_map]; have := h.nlines; omega)
  obtain ⟨l, hl, rfl⟩ := List.mem_map.mp hy
  exact h.lines l hl
theorem Web.ok.text_len {x : Web} (h : x.ok) : x.text.length ≤ 15000 := by
  unfold Web.text
  rw [SX.S_len]
  unfold Web.textL
  have := joinL_len (sep := [10]) x.linesL
  have := h.sums
  have := h.nlines
  simp only [List.length_cons, List.length_nil] at *
  omega
theorem cal_shown (B : Bi mg) (c1 : Cal P w K mg base "deed_line" 2 ["deed"] (spP K R_dline)) (c2 : Cal P w K mg base "out_line" 2 ["out"] (spP K R_oline)) (D : Df K mg "shown" "shown" (top 38) ["web"]) : Cal P w K mg base "shown" 3 ["web"] (spP K R_shown) := by
  refine cal_P (N := ["web", "ins", "deeds", "outs", "lines", "deed", "out"]) D sc_38 (by rintro ds d ⟨n, _, rfl, _⟩; rfl) (by decide) (fun f cdv A outer sh H E hr ds d h => ?_)
  obtain ⟨x, hok, rfl, rfl⟩ := h
  have hdl := hok.dl
  have hol := hok.ol
  show DS _ _ [.dat (.tuple [.int x.ins, .list (x.deeds.map encD), .list (x.outs.map encO)]), .un, .un, .un, .un, .un, .un] [] _ _
  refine tup1 (dp_var 0) (dg_tup rfl (dgs_cons (dgn 1) (dgs_cons (dgn 2) (dgs_cons (dgn 3) dgs_nil)))) ?_
  refine set1 4 (d := .list ((x.linesL.map S).map .str)) ((dp_cat (dp_cat (dp_lst (da_cons (dp_addL (dp_lit [105, 110, 32]) (dp_strN (n := x.ins) B (dp_var 1) (Nat.lt_of_le_of_lt hok.i2 (by decide))) ?_) da_nil)) (lcp [("deed", 5)] x.deeds encD (fun d => .str (S (deedL d))) (fun d => [(5, encD d)]) (di_list (dp_var 2)) (fun x _ s H C cl fp => dgn 5) (fun d hd s H C cl fp => ?_) rfl (by omega)) ?_) (lcp [("out", 6)] x.outs encO (fun o => .str (S (outLine o))) (fun o => [(6, encO o)]) (di_list (dp_var 3)) (fun x _ s H C cl fp => dgn 6) (fun o ho s H C cl fp => ?_) rfl (by omega)) ?_).is ?_) ?_
  · have := nl_len (n := x.ins) (k := 2) (by decide) (by have := hok.i2; omega); simp; omega
  · exact dp_call c1 hr rfl (da_cons (dp_var 5) da_nil) ⟨d, hok.td d hd, rfl, rfl⟩
  · simp [sizeLine_eq]; omega
  · exact dp_call c2 hr rfl (da_cons (dp_var 6) da_nil) ⟨o, hok.to o ho, rfl, rfl⟩
  · simp [sizeLine_eq]; omega
  · unfold Web.linesL insL; simp; rfl
  refine ret1 (dp_join (dp_lit [10]) (dp_var 4) ?_) ?_
  · rw [SX.lens, List.length_map, SX.S_len]; have := hok.sums; have := hok.nlines; simp; omega
  · rw [SX.join_S]; rfl
theorem cal_rins (B : Bi mg) (g1 : GI mg "MOST_INS" 12) (c1 : Cal P w K mg base "is_figures" 1 ["text", "most"] (spP K R_figs)) (D : Df K mg "read_ins" "read_ins" (top 39) ["line"]) : Cal P w K mg base "read_ins" 2 ["line"] (spP K R_rins) := by
  refine cal_P (N := ["line"]) D sc_39 (by rintro ds d ⟨n, _, rfl, _⟩; rfl) (by decide) (fun f cdv A outer sh H E hr ds d h => ?_)
  obtain ⟨n, ⟨h1, h2⟩, rfl, rfl⟩ := h
  show DS _ _ [.dat (.str (S ([105, 110, 32] ++ nl n)))] [] _ _
  have ln := nl_len (n := n) (k := 2) (by decide) (by omega)
  have hl : (S ([105, 110, 32] ++ nl n)).length ≤ sizeLine := by rw [SX.S_len, sizeLine_eq]; simp; omega
  have cf : PyData.str (cutS (S ([105, 110, 32] ++ nl n)) (some 3) none) = .str (S (nl n)) := congrArg PyData.str (cut_from (by rfl))
  refine if1 (dt_w (dw_or (dt_not (dt_val ((dp_startswith (dp_var 0) (dp_lit [105, 110, 32])).is (by rw [sw_yes])))) fun _ => dw_or (dt_not (dt_val (dp_call c1 hr (by rfl) (da_cons ((dp_slS (dp_var 0) (do_some dp_int) do_none hl).is cf) (da_cons dp_int da_nil)) ⟨n, 2, ln, by decide, rfl, rfl⟩))) fun _ => dw_or1 (dt_not (dt_chain op_le op_le dp_int (int_at (n := n) (by omega) B ((dp_slS (dp_var 0) (do_some dp_int) do_none hl).is cf)) (dp_globI g1) rd_IB rd_IB)))) (fun h => ?_) (fun _ => ?_)
  · simp at h; omega
  · exact ret1 (int_at (n := n) (by omega) B ((dp_slS (dp_var 0) (do_some dp_int) do_none hl).is cf)) rfl
theorem sign_ins (b : Bool) : ([PyData.str (S [43]), PyData.str (S [45])].any fun y => eqF y (.str (signS b))) = true := by cases b <;> decide
theorem cal_rdeed (B : Bi mg) (c1 : Cal P w K mg base "read_part" 2 ["text"] (spP K R_rpart)) (c2 : Cal P w K mg base "deed_of_texts" 1 ["sign", "one", "other"] (spP K R_deedof)) (D : Df K mg "read_deed" "read_deed" (top 40) ["line"]) : Cal P w K mg base "read_deed" 3 ["line"] (spP K R_rdeed) := by
  refine cal_P (N := ["line", "words", "one", "other"]) D sc_40 (by rintro ds d (⟨n, _, rfl, _⟩ | ⟨n, _, rfl, _⟩) <;> rfl) (by decide) (fun f cdv A outer sh H E hr ds d h => ?_)
  rcases h with ⟨e, hT, rfl, rfl⟩ | ⟨o, hT, rfl, rfl⟩
  · show DS _ _ [.dat (.str (S (deedL e))), .un, .un, .un] [] _ _
    have hl : (S (deedL e)).length + 2 ≤ sizeLine := by rw [SX.S_len, sizeLine_eq]; have := deedL_len hT; omega
    refine set1 1 (d := .list [.str (S (partL e.a e.s)), .str (signS e.less), .str (S (partL e.b e.t))]) ((dp_split (dp_var 0) (dp_lit [32]) (by decide) hl).is (by rw [deed_split]; rfl)) ?_
    refine if1 (dt_w (dw_or (dt_neI (dp_len B (dp_var 1)) dp_int) fun _ => dw_or1 (dt_notInT (dp_ixL (dp_var 1) dp_int (d := .str (signS e.less)) rfl) (dp_tup (da_cons (dp_lit [43]) (da_cons (dp_lit [45]) da_nil))) rfl rfl))) (fun h => ?_) (fun _ => ?_)
    · rw [sign_ins] at h; cases h
    refine set1 2 (dp_call c1 hr rfl (da_cons (dp_ixL (dp_var 1) dp_int rfl) da_nil) ⟨e.a, e.s, hT.1, rfl, rfl⟩) ?_
    refine set1 3 (dp_call c1 hr rfl (da_cons (dp_ixL (dp_var 1) dp_int rfl) da_nil) ⟨e.b, e.t, hT.2, rfl, rfl⟩) ?_
    refine if1 (dt_w (dw_or (dt_isN (dp_var 2)) fun _ => dw_or1 (dt_isN (dp_var 3)))) (fun h => by cases h) (fun _ => ?_)
    exact ret1 (dp_call c2 (hr.mono (by decide)) rfl (da_cons (dp_ixL (dp_var 1) dp_int rfl) (da_cons (dp_var 2) (da_cons (dp_var 3) da_nil))) ⟨e, rfl, rfl⟩) rfl
  · show DS _ _ [.dat (.str (S (outLine o))), .un, .un, .un] [] _ _
    have hl : (S (outLine o)).length + 2 ≤ sizeLine := by rw [SX.S_len, sizeLine_eq]; have := outL_len hT; omega
    refine set1 1 (d := .list [.str (S [111, 117, 116]), .str (S (outL o))]) ((dp_split (dp_var 0) (dp_lit [32]) (by decide) hl).is (by rw [out_split]; rfl)) ?_
    exact if1 (dt_w (dw_or (q := true) (dt_neI (dp_len B (dp_var 1)) dp_int) fun h => by cases h)) (fun _ => ret1 dp_non rfl) (fun h => by cases h)
theorem cal_rlast (B : Bi mg) (c1 : Cal P w K mg base "read_out" 3 ["text"] (spP K R_rout)) (D : Df K mg "read_last" "read_last" (top 41) ["line"]) : Cal P w K mg base "read_last" 4 ["line"] (spP K R_rlast) := by
  refine cal_P (N := ["line", "words"]) D sc_41 (by rintro ds d (⟨n, _, rfl, _⟩ | ⟨n, _, rfl, _⟩) <;> rfl) (by decide) (fun f cdv A outer sh H E hr ds d h => ?_)
  rcases h with ⟨e, hT, rfl, rfl⟩ | ⟨o, hT, rfl, rfl⟩
  · show DS _ _ [.dat (.str (S (deedL e))), .un] [] _ _
    have hl : (S (deedL e)).length + 2 ≤ sizeLine := by rw [SX.S_len, sizeLine_eq]; have := deedL_len hT; omega
    refine set1 1 (d := .list [.str (S (partL e.a e.s)), .str (signS e.less), .str (S (partL e.b e.t))]) ((dp_split (dp_var 0) (dp_lit [32]) (by decide) hl).is (by rw [deed_split]; rfl)) ?_
    exact if1 (dt_w (dw_or (q := true) (dt_neI (dp_len B (dp_var 1)) dp_int) fun h => by cases h)) (fun _ => ret1 dp_non rfl) (fun h => by cases h)
  · show DS _ _ [.dat (.str (S (outLine o))), .un] [] _ _
    have hl : (S (outLine o)).length + 2 ≤ sizeLine := by rw [SX.S_len, sizeLine_eq]; have := outL_len hT; omega
    refine set1 1 (d := .list [.str (S [111, 117, 116]), .str (S (outL o))]) ((dp_split (dp_var 0) (dp_lit [32]) (by decide) hl).is (by rw [out_split]; rfl)) ?_
    refine if1 (dt_w (dw_or (dt_neI (dp_len B (dp_var 1)) dp_int) fun _ => dw_or1 (dt_neS (dp_ixL (dp_var 1) dp_int (d := .str (S [111, 117, 116])) rfl) (dp_lit [111, 117, 116])))) (fun h => ?_) (fun _ => ?_)
    · simp at h
    exact ret1 (dp_call c1 hr rfl (da_cons (dp_ixL (dp_var 1) dp_int rfl) da_nil) ⟨o, hT, rfl, rfl⟩) rfl

theorem text_lines {x : Web} : x.text = S (TL.joinL [10] x.linesL) := rfl
theorem lf_encD {d : Deed} : lf (encD d) = true := rfl
theorem lf_encO {d : Out} : lf (encO d) = true := rfl
/-- which line is which -/
theorem line_at {x : Web} {i : Nat} (h : i < x.deeds.length + x.outs.length) : (∃ d, i < x.deeds.length ∧ x.deeds[i]? = some d ∧ (x.linesL.map S)[i + 1]? = some (S (deedL d))) ∨ ∃ o, x.deeds.length ≤ i ∧ x.outs[i - x.deeds.length]? = some o ∧ (x.linesL.map S)[i + 1]? = some (S (outLine o)) := by
  unfold Web.linesL
  rw [List.map_cons, List.getElem?_cons_succ, List.map_append, List.map_map, List.map_map]
  by_cases hi : i < x.deeds.length
  · left
    refine ⟨x.deeds[i], hi, List.getElem?_eq_getElem hi, ?_⟩
    rw [List.getElem?_append_left (by simpa using hi), List.getElem?_map, List.getElem?_eq_getElem hi]; rfl
  · right
    have hj : i - x.deeds.length < x.outs.length := by omega
    refine ⟨x.outs[i - x.deeds.length], by omega, List.getElem?_eq_getElem hj, ?_⟩
    rw [List.getElem?_append_right (by simp; omega), List.length_map, List.getElem?_map, List.getElem?_eq_getElem hj]; rfl
theorem cal_read (B : Bi mg) (g2 : GI mg "MOST_OUTS" 12) (c0 : Cal P w K mg base "units" 1 ["ins"] (spS K S_units)) (c1 : Cal P w K mg base "read_ins" 2 ["line"] (spP K R_rins)) (c2 : Cal P w K mg base "read_deed" 3 ["line"] (spP K R_rdeed)) (c3 : Cal P w K mg base "read_last" 4 ["line"] (spP K R_rlast)) (c4 : Cal P w K mg base "deed_numbers" 3 ["told", "deed"] (spP K R_deedn)) (c5 : Cal P w K mg base "number_of_out" 3 ["told", "out"] (spP K R_nout)) (D : Df K mg "read" "read" (top 42) ["text"]) : Cal P w K mg base "read" 5 ["text"] (spP K R_read) := by
  refine cal_P (N := ["text", "lines", "ins", "told", "deeds", "outs", "k", "deed", "out", "found"]) D sc_42 (by rintro ds d ⟨n, _, rfl, _⟩; rfl) (by decide) (fun f cdv A outer sh H E hr ds d h => ?_)
  obtain ⟨x, hok, rfl, rfl⟩ := h
  have hi1 := hok.i1
  have hi2 := hok.i2
  have hdl := hok.dl
  have hol := hok.ol
  show DS _ _ [.dat (.str x.text), .un, .un, .un, .un, .un, .un, .un, .un, .un] [] _ _
  refine if1 (dt_not (dt_val (dp_isi (p := true) B (dp_var 0) B.str PyProof.Rows.boot_str rfl (by decide +kernel)))) (fun h => by cases h) (fun _ => ?_)
  refine set1 1 (d := .list ((x.linesL.map S).map .str)) ((dp_split (dp_var 0) (dp_lit [10]) (by decide) (by have := hok.text_len; rw [sizeLine_eq]; omega)).is (by rw [text_split])) ?_
  refine set1 2 (dp_call c1 (hr.mono (by decide)) rfl (da_cons (dp_ixL (dp_var 1) dp_int (d := .str (S (insL x.ins))) (atI_nat (i := 0) rfl)) da_nil) ⟨x.ins, ⟨hi1, hi2⟩, rfl, rfl⟩) ?_
  refine if1 (dt_isN (dp_var 2)) (fun h => by cases h) (fun _ => ?_)
  refine setE 3 (de_call c0 (hr.mono (by decide)) rfl (dae_pure (da_cons (dp_var 2) da_nil) ⟨x.ins, hi2, rfl, ?_⟩))
  refine setE 4 (de_nil ?_)
  refine setE 5 (de_nil ?_)
  show DS _ _ _ [.lst (((unitRows x.ins).map encT).map .dat), .lst [], .lst []] _ _
  have hll : ((x.linesL.map S).map PyData.str).length = x.deeds.length + x.outs.length + 1 := by unfold Web.linesL; simp
  refine ds_for (die_pure (di_rng2 (m := x.deeds.length + x.outs.length) rfl B.range dp_int (dp_len B (dp_var 1)) (by rw [hll]; omega) (by decide) (by rw [hll]; omega)) ⟨fun i ρ' O' => ∃ a b c d, ρ' = [.dat (.str x.text), .dat (.list ((x.linesL.map S).map .str)), .dat (.int x.ins), .ptr 0, .ptr 1, .ptr 2, a, b, c, d] ∧ O' = [.lst (((grow stepR (unitRows x.ins) (x.deeds.take i)).map encT).map .dat), .lst (((x.deeds.take i).map encD).map .dat), .lst (((x.outs.take (i - x.deeds.length)).map encO).map .dat)], ⟨_, _, _, _, rfl, by simp [grow]⟩, ?_, ?_⟩)
  · rintro i y ρ' O' hx ⟨a, b, c, d, rfl, rfl⟩
    obtain ⟨hi, rfl⟩ := rngD_get hx
    refine ⟨[(6, _)], dgn 6, nrm ?_⟩
    have hS : Sz (grow stepR (unitRows x.ins) (x.deeds.take i)) := sz_rows (okDs_take hok.ds i) hi2 (by rw [List.length_take]; omega)
    have hp : 0 < (grow stepR (unitRows x.ins) (x.deeds.take i)).length := by rw [grow_len, unitRows_len]; omega
    rcases line_at hi with ⟨e, hlt, he, hline⟩ | ⟨o, hle, ho, hline⟩
    · have hat : atI ((x.linesL.map S).map PyData.str) (1 + (i : Int)) = some (.str (S (deedL e))) := by
        rw [show (1 + (i : Int)) = ((i + 1 : Nat) : Int) by omega]
        exact atI_nat (by rw [List.getElem?_map, hline]; rfl)
      have hT := hok.td e (List.mem_of_getElem? he)
      refine set1 7 (dp_call c2 (hr.mono (by decide)) rfl (da_cons (dp_ixL (dp_var 1) (dp_var 6) hat) da_nil) (.inl ⟨e, hT, rfl, rfl⟩)) ?_
      refine set1 8 (dp_call c3 hr rfl (da_cons (dp_ixL (dp_var 1) (dp_var 6) hat) da_nil) (.inl ⟨e, hT, rfl, rfl⟩)) ?_
      have hz : x.outs.take (i - x.deeds.length) = [] := by rw [show i - x.deeds.length = 0 by omega]; rfl
      have tr := grow_take (f := stepR) (unitRows x.ins) he
      have hD := okDs_at hok.ds he
      rw [hz]
      generalize hR : grow stepR (unitRows x.ins) (x.deeds.take i) = R at *
      refine ds_if (mid := fun ρ' O' => (∃ a b c d, ρ' = [.dat (.str x.text), .dat (.list ((x.linesL.map S).map .str)), .dat (.int x.ins), .ptr 0, .ptr 1, .ptr 2, a, b, c, d]) ∧ O' = [.lst (((R ++ [stepR R e]).map encT).map .dat), .lst (((x.deeds.take (i + 1)).map encD).map .dat), .lst []]) (dte_borrow (b := true && true) [none, none, none, none, none, some (.list []), none, some (encD e), none, none] (.no (.no (.no (.no (.no (.yes (.ptr rfl .nil) (.no (.yes (.dat _) (.no (.no .nil)))))))))) (dt_w (dw_and (dt_notN (d := encD e) (dp_var 7)) fun _ => dw_and1 (dt_eqT 1 hr.units (dp_var 5) (dp_lst da_nil) rfl))) ⟨fun _ => ?_, fun h => by cases h⟩) ?_
      · refine setE 9 (de_borrow [none, none, none, some (encTs R), none, none, none, some (encD e), none, none] (.no (.no (.no (.yes (.ptr rfl vds_map) (.no (.no (.no (.yes (.dat _) (.no (.no .nil)))))))))) (dp_call c4 (hr.mono (by decide)) rfl (da_cons (dp_var 3) (da_cons (dp_var 7) da_nil)) ⟨R, e, rfl, hD, hS, rfl⟩) lf_encT ?_)
        refine if1 (dt_isN (dp_var 9)) (fun h => by cases h) (fun _ => ?_)
        refine ds_expr (de_append (de_var 3 rfl ⟨0, _, rfl, rfl, de_var 9 rfl ⟨_, rfl, ?_, ?_⟩⟩))
        · rw [List.length_map, List.length_map, ← hR, grow_len, unitRows_len, List.length_take]; omega
        refine ds_expr (de_append (de_var 4 rfl ⟨1, _, rfl, rfl, de_var 7 rfl ⟨_, rfl, ?_, ds_nil ⟨⟨_, _, _, _, rfl⟩, ?_⟩⟩⟩))
        · rw [List.length_map, List.length_map, List.length_take]; omega
        · rw [take_succ_snoc he]; simp [encTs]
      · rintro ρ' O' ⟨⟨a, b, c, d, rfl⟩, rfl⟩
        refine ds_nil ⟨_, _, _, _, rfl, ?_⟩
        rw [tr, show i + 1 - x.deeds.length = 0 by omega]; rfl
    · have hat : atI ((x.linesL.map S).map PyData.str) (1 + (i : Int)) = some (.str (S (outLine o))) := by
        rw [show (1 + (i : Int)) = ((i + 1 : Nat) : Int) by omega]
        exact atI_nat (by rw [List.getElem?_map, hline]; rfl)
      have hm := List.mem_of_getElem? ho
      have hT := hok.to o hm
      refine set1 7 (dp_call c2 (hr.mono (by decide)) rfl (da_cons (dp_ixL (dp_var 1) (dp_var 6) hat) da_nil) (.inr ⟨o, hT, rfl, rfl⟩)) ?_
      refine set1 8 (dp_call c3 hr rfl (da_cons (dp_ixL (dp_var 1) (dp_var 6) hat) da_nil) (.inr ⟨o, hT, rfl, rfl⟩)) ?_
      have hte : x.deeds.take i = x.deeds := List.take_of_length_le hle
      have hte2 : x.deeds.take (i + 1) = x.deeds := List.take_of_length_le (by omega)
      have hrr : grow stepR (unitRows x.ins) x.deeds = x.rows := rfl
      have hsub : i + 1 - x.deeds.length = (i - x.deeds.length) + 1 := by omega
      have hlj := get_lt ho
      rw [hte, hrr]
      refine ds_if (mid := fun ρ' O' => (∃ a b c d, ρ' = [.dat (.str x.text), .dat (.list ((x.linesL.map S).map .str)), .dat (.int x.ins), .ptr 0, .ptr 1, .ptr 2, a, b, c, d]) ∧ O' = [.lst ((x.rows.map encT).map .dat), .lst ((x.deeds.map encD).map .dat), .lst (((x.outs.take (i - x.deeds.length + 1)).map encO).map .dat)]) (dte_pure (b := false && true) (dt_w (dw_and (b := _) (dt_notN (d := .none) (dp_var 7)) fun h => by cases h)) ⟨(fun h => by cases h), fun _ => ?_⟩) ?_
      · refine ds_if (mid := fun ρ' O' => (∃ a b c d, ρ' = [.dat (.str x.text), .dat (.list ((x.linesL.map S).map .str)), .dat (.int x.ins), .ptr 0, .ptr 1, .ptr 2, a, b, c, d]) ∧ O' = [.lst ((x.rows.map encT).map .dat), .lst ((x.deeds.map encD).map .dat), .lst (((x.outs.take (i - x.deeds.length + 1)).map encO).map .dat)]) (dte_borrow (b := true && (decide ((((x.outs.take (i - x.deeds.length)).map encO).length : Int) < 12) && true)) [none, none, none, some (encTs x.rows), none, some (.list ((x.outs.take (i - x.deeds.length)).map encO)), none, none, some (encO o), none] (.no (.no (.no (.yes (.ptr rfl vds_map) (.no (.yes (.ptr rfl vds_map) (.no (.no (.yes (.dat _) (.no .nil)))))))))) (dt_w (dw_and (dt_notN (d := encO o) (dp_var 8)) fun _ => dw_and (dt_lt (dp_len B (dp_var 5)) (dp_globI g2)) fun _ => dw_and1 (dt_notN (d := encT (outRow x.rows o)) (dp_call c5 (hr.mono (by decide)) (by rfl) (da_cons (dp_var 3) (da_cons (dp_var 8) da_nil)) ⟨x.rows, o, rfl, hok.os o hm, hok.sz, hok.pos, rfl⟩)))) ⟨fun _ => ?_, fun h => ?_⟩) ?_
        · refine ds_expr (de_append (de_var 5 rfl ⟨2, _, rfl, rfl, de_var 8 rfl ⟨_, rfl, ?_, ds_nil ⟨⟨_, _, _, _, rfl⟩, ?_⟩⟩⟩))
          · rw [List.length_map, List.length_map, List.length_take]; omega
          · rw [take_succ_snoc ho]; simp
        · simp only [List.length_map, List.length_take, Bool.true_and, Bool.and_true, decide_eq_false_iff_not] at h
          omega
        · rintro ρ' O' ⟨⟨a, b, c, d, rfl⟩, rfl⟩
          exact ds_nil ⟨⟨_, _, _, _, rfl⟩, rfl⟩
      · rintro ρ' O' ⟨⟨a, b, c, d, rfl⟩, rfl⟩
        refine ds_nil ⟨_, _, _, _, rfl, ?_⟩
        rw [hte2, hrr, hsub]
  · rintro ρ' O' ⟨a, b, c, d, rfl, rfl⟩
    have hrl : (rngD 1 (x.deeds.length + x.outs.length)).length = x.deeds.length + x.outs.length := by unfold rngD; simp
    rw [hrl, List.take_of_length_le (show x.deeds.length ≤ x.deeds.length + x.outs.length by omega), show x.deeds.length + x.outs.length - x.deeds.length = x.outs.length by omega, List.take_length]
    refine ds_freeze 1 4 rfl rfl (ds_freeze 2 5 rfl rfl ?_)
    refine nrm ?_
    exact ret1 (dp_tup (da_cons (dp_var 2) (da_cons (dp_var 4) (da_cons (dp_var 5) da_nil)))) rfl
end
end SS
/-! The mathematics, two: the power of two in a number; forms of rows. -/
namespace SS
open PySem
def tzN (n : Nat) : Nat := if h : n = 0 then 0 else if n % 2 = 1 then 0 else tzN (n / 2) + 1
decreasing_by omega
theorem tz_odd : ∀ n : Nat, n ≠ 0 → ∃ m, n = 2 ^ tzN n * (2 * m + 1) := by
  intro n
  induction n using Nat.strongRecOn with
  | ind n ih =>
    intro h
    rw [tzN]
    rw [dif_neg h]
    by_cases h2 : n % 2 = 1
    · rw [if_pos h2]; exact ⟨n / 2, by omega⟩
    · rw [if_neg h2]
      obtain ⟨m, hm⟩ := ih (n / 2) (by omega) (by omega)
      refine ⟨m, ?_⟩
      rw [Nat.pow_succ, Nat.mul_right_comm, ← hm]; omega
theorem and_half (x y : Nat) : x &&& y = 2 * ((x / 2) &&& (y / 2)) + (x % 2) * (y % 2) := by
  apply Nat.eq_of_testBit_eq
  intro i
  cases i with
  | zero =>
    rw [Nat.testBit_and, Nat.testBit_zero, Nat.testBit_zero, Nat.testBit_zero]
    have h1 : (2 * (x / 2 &&& y / 2) + x % 2 * (y % 2)) % 2 = x % 2 * (y % 2) := by
      rcases Nat.mod_two_eq_zero_or_one x with a | a <;> rcases Nat.mod_two_eq_zero_or_one y with b | b <;> simp [a, b] <;> omega
    rw [h1]
    rcases Nat.mod_two_eq_zero_or_one x with a | a <;> rcases Nat.mod_two_eq_zero_or_one y with b | b <;> simp [a, b]
  | succ i =>
    rw [Nat.testBit_and, Nat.testBit_succ, Nat.testBit_succ, Nat.testBit_succ]
    have h1 : (2 * (x / 2 &&& y / 2) + x % 2 * (y % 2)) / 2 = x / 2 &&& y / 2 := by
      rcases Nat.mod_two_eq_zero_or_one x with a | a <;> rcases Nat.mod_two_eq_zero_or_one y with b | b <;> simp [a, b] <;> omega
    rw [h1, Nat.testBit_and]
theorem low_bit : ∀ n : Nat, n ≠ 0 → (n &&& (n - 1)) + 2 ^ tzN n = n := by
  intro n
  induction n using Nat.strongRecOn with
  | ind n ih =>
    intro h
    rw [tzN, dif_neg h, and_half]
    by_cases h2 : n % 2 = 1
    · rw [if_pos h2]
      have e1 : (n - 1) / 2 = n / 2 := by omega
      have e2 : (n - 1) % 2 = 0 := by omega
      rw [e1, e2, Nat.and_self]; omega
    · rw [if_neg h2]
      have e1 : (n - 1) / 2 = n / 2 - 1 := by omega
      have e2 : n % 2 = 0 := by omega
      have := ih (n / 2) (by omega) (by omega)
      rw [e1, e2, Nat.pow_succ]; omega
def coreP (n : Int) : Int × Int × Int := if n = 0 then (0, 0, 0) else (((n.natAbs / 2 ^ tzN n.natAbs : Nat) : Int), (tzN n.natAbs : Nat), if n < 0 then -1 else 1)
end SS
/-! The mirrors of tidy.py and turned.py. -/
namespace SS
open PySem
def useO (f : List Bool) (o : Out) : List Bool := if o.sign = 0 then f else f.set o.thing true
def useD (w : Web) (f : List Bool) (k : Nat) : List Bool := match w.deeds[k]? with
  | some d => if f.getD (w.ins + k) false = true then (f.set d.a true).set d.b true else f
  | none => f
def Web.usedO (w : Web) : List Bool := w.outs.foldl useO (List.replicate (w.ins + w.deeds.length) false)
def Web.used (w : Web) : List Bool := (List.range w.deeds.length).reverse.foldl (useD w) w.usedO
theorem useO_len {f : List Bool} {o : Out} : (useO f o).length = f.length := by unfold useO; split <;> simp
theorem useD_len {w : Web} {f : List Bool} {k : Nat} : (useD w f k).length = f.length := by unfold useD; split; split <;> simp; rfl
theorem foldO_len : ∀ {os : List Out} {f : List Bool}, (os.foldl useO f).length = f.length
  | [], _ => rfl
  | o :: os, f => by rw [List.foldl_cons, foldO_len, useO_len]
theorem foldD_len {w : Web} : ∀ {ks : List Nat} {f : List Bool}, (ks.foldl (useD w) f).length = f.length
  | [], _ => rfl
  | k :: ks, f => by rw [List.foldl_cons, foldD_len, useD_len]
theorem Web.usedO_len {w : Web} : w.usedO.length = w.ins + w.deeds.length := by unfold Web.usedO; rw [foldO_len]; simp
theorem Web.used_len {w : Web} : w.used.length = w.ins + w.deeds.length := by unfold Web.used; rw [foldD_len, Web.usedO_len]
/-! pruned -/
def pruS (w : Web) (U : List Bool) (acc : List Nat × List Deed) (k : Nat) : List Nat × List Deed :=
  let an := acc.1 ++ [w.ins + acc.2.length]
  (an, match w.deeds[k]? with
    | some d => if U.getD (w.ins + k) false = true then acc.2 ++ [⟨d.less, an.getD d.a 0, d.s, an.getD d.b 0, d.t⟩] else acc.2
    | none => acc.2)
def Web.pruL (w : Web) (k : Nat) : List Nat × List Deed := (List.range k).foldl (pruS w w.used) (List.range w.ins, [])
def pruO (an : List Nat) (o : Out) : Out := ⟨an.getD o.thing 0 * o.sign.natAbs, o.shift, o.sign⟩
def Web.pruned (w : Web) : Web := ⟨w.ins, (w.pruL w.deeds.length).2, w.outs.map (pruO (w.pruL w.deeds.length).1)⟩
theorem Web.pruL_succ {w : Web} {k : Nat} : w.pruL (k + 1) = pruS w w.used (w.pruL k) k := by unfold Web.pruL; rw [List.range_succ, List.foldl_append]; rfl
theorem Web.pruL_len {w : Web} : ∀ k, (w.pruL k).1.length = w.ins + k ∧ (w.pruL k).2.length ≤ k
  | 0 => by simp [Web.pruL]
  | k + 1 => by
    obtain ⟨h1, h2⟩ := Web.pruL_len (w := w) k
    rw [Web.pruL_succ]
    unfold pruS
    refine ⟨by simp; omega, ?_⟩
    dsimp only
    split
    · split
      · simp; omega
      · omega
    · omega
/-! form -/
def minL : List Int → Int
  | [] => 0
  | [x] => x
  | x :: y :: r => let m := minL (y :: r); if x ≤ m then x else m
def nz (r : Row) : Row := r.filter fun n => decide (n ≠ 0)
def formS (r : Row) : Int := minL ((nz r).map fun n => (coreP n).2.1)
def formG (r : Row) : Int := match nz r with
  | [] => 0
  | n :: _ => (coreP n).2.2
def formN (r : Row) : Row := r.map fun n => (formG r * n) / 2 ^ (formS r).toNat
theorem minL_mem : ∀ {l : List Int}, l ≠ [] → minL l ∈ l ∧ ∀ y ∈ l, minL l ≤ y
  | [], h => absurd rfl h
  | [x], _ => by simp [minL]
  | x :: y :: r, _ => by
    obtain ⟨h1, h2⟩ := minL_mem (l := y :: r) (by simp)
    show (if x ≤ minL (y :: r) then x else minL (y :: r)) ∈ _ ∧ ∀ z ∈ _, (if x ≤ minL (y :: r) then x else minL (y :: r)) ≤ z
    split
    · refine ⟨by simp, fun z hz => ?_⟩
      rcases List.mem_cons.mp hz with e | hz
      · omega
      · have := h2 z hz; omega
    · refine ⟨List.mem_cons_of_mem _ h1, fun z hz => ?_⟩
      rcases List.mem_cons.mp hz with e | hz
      · omega
      · exact h2 z hz
/-! bare -/
abbrev Kn := List (Row × (Nat × Int × Int))
def lkR (k : Kn) (r : Row) : Option (Nat × Int × Int) := (k.find? fun kv => decide (kv.1 = r)).map (·.2)
structure Bst where
  ds : List Deed
  parts : List Out
  known : Kn
def bareS (w : Web) (b : Bst) (k : Nat) (r : Row) : Bst :=
  if nz r = [] then { b with parts := b.parts ++ [noOut] }
  else match lkR b.known (formN r) with
    | some v => { b with parts := b.parts ++ [⟨v.1, formS r - v.2.1, formG r * v.2.2⟩] }
    | none =>
      let dp : List Deed × Out := if k < w.ins then (b.ds, ⟨k, 0, 1⟩) else match w.deeds[k - w.ins]? with
        | some d => sumP w.ins b.ds (liftP (b.parts.getD d.a noOut) d.s) (signP (liftP (b.parts.getD d.b noOut) d.t) (sgn d.less))
        | none => (b.ds, ⟨k, 0, 1⟩)
      ⟨dp.1, b.parts ++ [dp.2], b.known ++ [(formN r, (dp.2.thing, formS r, formG r * dp.2.sign))]⟩
def Web.bareL (w : Web) (i : Nat) : Bst := (List.range i).foldl (fun b k => bareS w b k (w.rows.getD k [])) ⟨[], [], []⟩
def Web.bare0 (w : Web) : Web := let b := w.bareL (w.ins + w.deeds.length)
  ⟨w.ins, b.ds, w.outs.map fun o => signP (liftP (b.parts.getD o.thing noOut) o.shift) o.sign⟩
def Web.bare (w : Web) : Web := w.pruned.bare0.pruned
theorem Web.bareL_succ {w : Web} {k : Nat} : w.bareL (k + 1) = bareS w (w.bareL k) k (w.rows.getD k []) := by unfold Web.bareL; rw [List.range_succ, List.foldl_append]; rfl
/-! turned -/
def Web.listOf (w : Web) (t : Nat) : List Arr := w.arrs.filter fun a => decide (a.st = t)
def turnS (w : Web) (acc : List Deed × List Out) (t : Nat) : List Deed × List Out :=
  let dp := chainP w.outs.length acc.1 noOut ((w.listOf t).map fun a => signP (liftP (acc.2.getD a.en noOut) a.sh) a.sn)
  (dp.1, acc.2.set t dp.2)
def Web.turn0 (w : Web) : List Out := List.replicate (w.ins + w.deeds.length) noOut ++ (List.range w.outs.length).map fun k => ⟨k, 0, 1⟩
def Web.turnL (w : Web) (i : Nat) : List Deed × List Out := (((List.range (w.ins + w.deeds.length)).reverse.take i).foldl (turnS w) ([], w.turn0))
def Web.turned (w : Web) : Web := let r := w.turnL (w.ins + w.deeds.length)
  ⟨w.outs.length, r.1, r.2.take w.ins⟩
end SS
set_option maxHeartbeats 4000000
set_option exponentiation.threshold 100
/-! The walks, five: core, parts, the class Builder. -/
namespace SS
open PySem PySem.Spec PyProof.Rows L2
/-! owned things inside displays and calls -/
section
variable {X : Cx} {ρ : List SV} {O : Rs} {e a b : Expr} {es : List Expr} {post : Post} {d : PyData} {ds : List PyData} {pos p0 : Pos} {sv : SV}
theorem de_tupE {k} (h : DAe X es ρ O fun svs O1 => ∃ ds, svs = ds.map .dat ∧ ds.length ≤ 1000 ∧ post (.dat (.tuple ds)) O1) : DE X (.Tuple es k pos) ρ O post := fun F A σ H s Q q =>
  wE_of (pe_tup pa_star) (h F A σ H s _ fun vs F1 A1 H1 svs O1 p x1 s1 r1 => by
    obtain ⟨ds, rfl, hz, p⟩ := p
    have rs := reps_of r1
    refine ⟨by rw [rs.len]; exact Nat.le_of_lt (small1000 hz), fun p0 hp => ?_⟩
    have xt := Xt.new (o := .tup vs) s1.ex hp
    exact q _ _ A1 _ _ O1 p (x1.trans (.pure xt)) (s1.pure xt) (Rep.tup (SqT.of upd_same) (rs.mono xt.f)))
theorem de_lstE (h : DAe X es ρ O fun svs O1 => ∃ ds, svs = ds.map .dat ∧ ds.length ≤ 1000 ∧ post (.dat (.list ds)) O1) : DE X (.List es pos) ρ O post := fun F A σ H s Q q =>
  wE_of (pe_lst pa_star) (h F A σ H s _ fun vs F1 A1 H1 svs O1 p x1 s1 r1 => by
    obtain ⟨ds, rfl, hz, p⟩ := p
    have rs := reps_of r1
    refine ⟨by rw [rs.len]; exact Nat.le_of_lt (small1000 hz), fun p0 hp => ?_⟩
    have xt := Xt.new (o := .lst vs) s1.ex hp
    exact q _ _ A1 _ _ O1 p (x1.trans (.pure xt)) (s1.pure xt) (Rep.lst upd_same (rs.mono xt.f)))
/-- list(xs) of an owned list of data: data -/
theorem de_listO (B : Bi X.mg) (h : DE X a ρ O fun y O1 => ∃ k ds, y = .ptr k ∧ O1[k]? = some (.lst (ds.map .dat)) ∧ post (.dat (.list ds)) O1) (hg : Gl X "list" := by rfl) (he : starEach [a] X.env = [(false, eval a X.env)] := by rfl) : DE X (.Call (.Name "list" p0) [a] [] pos) ρ O post := fun F A σ H s Q q =>
  wE_of (pe_callTy call_list_of hg B.list PyProof.Rows.boot_list pa_star (by decide) (by decide) he (by rfl)) (wA_of (pa_cons pe_star pa_nil he) (h F A σ H s _ fun v F1 A1 H1 sx O1 p x1 s1 r1 => by
    obtain ⟨k, ds, rfl, p1, p2⟩ := p
    obtain ⟨ad, ha, rfl⟩ := r1
    obtain ⟨vs, g1, g2⟩ := s1.at p1 ha
    refine ⟨ad, vs, rfl, .inl (SqL.of g1), fun l hl => ?_⟩
    have xt := Xt.new (o := .lst vs) s1.ex hl
    exact q _ _ A1 _ _ O1 p2 (x1.trans (.pure xt)) (s1.pure xt) (Rep.lst upd_same ((reps_of g2).mono xt.f))))
theorem die_list {tg : Expr} {post : List PyData → Rs → Prop} (h : DE X e ρ O fun sv O1 => ∃ xs, sv = .dat (.list xs) ∧ post xs O1) : DIe X tg e ρ O post := fun F A σ H s R q =>
  wI_of (pi_list pe_star) (h F A σ H s _ fun v F1 A1 H1 sv O1 p x1 s1 r => by
    obtain ⟨xs, rfl, p⟩ := p
    cases r with
    | lst h1 r1 => exact ⟨_, rfl, ⟨_, SqL.of (s1.ex _ _ h1)⟩, q _ F1 A1 H1 xs O1 p x1 s1 (yields_list h1 r1)⟩)
end
def NF (K : PySem.W.Frag) (mg : Str → Option Value) : Prop := ∃ a, mg "NOUGHT" = some (.ref a) ∧ ∀ F, Rep K F (.ref a) (encO noOut)
theorem dp_nought {X : Cx} {δ : Dl} {pos : Pos} (h : NF X.K X.mg) (hg : Gl X "NOUGHT" := by rfl) : DP X (.Name "NOUGHT" pos) δ (encO noOut) := let ⟨a, e, r⟩ := h; dp_glob hg e (v := .ref a) rfl r (by decide)
def R_core (ds : List PyData) (d : PyData) : Prop := ∃ n : Int, ds = [.int n] ∧ d = .tuple [.int (coreP n).1, .int (coreP n).2.1, .int (coreP n).2.2]
def R_turnsign (ds : List PyData) (d : PyData) : Prop := ∃ p : Out, ds = [encO p] ∧ d = encO ⟨p.thing, p.shift, -p.sign⟩
def R_lifted (ds : List PyData) (d : PyData) : Prop := ∃ (p : Out) (s : Int), ds = [encO p, .int s] ∧ d = encO (liftP p s)
def R_signed (ds : List PyData) (d : PyData) : Prop := ∃ (p : Out) (s : Int), ds = [encO p, .int s] ∧ d = encO (signP p s)
/-- a Builder: at k, its deeds at j -/
structure Bs (C : Addr) (O : Rs) (k j n : Nat) (ds : List Deed) : Prop where
  i : O[k]? = some (.ins C [("ins", .dat (.int n)), ("deeds", .ptr j)])
  l : O[j]? = some (.lst ((ds.map encD).map .dat))
def dl (ds : List Deed) : Ow := .lst ((ds.map encD).map .dat)
theorem Bs.ne {C : Addr} {O : Rs} {k j n : Nat} {ds : List Deed} (h : Bs C O k j n ds) : k ≠ j := fun e => by have := h.i; rw [e, h.l] at this; cases this
theorem Bs.set {C : Addr} {O : Rs} {k j n : Nat} {ds es : List Deed} (h : Bs C O k j n ds) : Bs C (O.set j (dl es)) k j n es :=
  ⟨by rw [List.getElem?_set_ne (Ne.symm h.ne)]; exact h.i, by rw [List.getElem?_set_self (List.getElem?_eq_some_iff.mp h.l).1]; rfl⟩
theorem Bs.same {C : Addr} {O : Rs} {k j n : Nat} {ds : List Deed} (h : Bs C O k j n ds) : O.set j (dl ds) = O := by
  apply List.ext_getElem?
  intro m
  by_cases hm : j = m
  · subst hm; rw [List.getElem?_set_self (List.getElem?_eq_some_iff.mp h.l).1, h.l]; rfl
  · rw [List.getElem?_set_ne hm]
def S_binit (C : Addr) (svs : List SV) (O : Rs) (post : Post) : Prop := ∃ (k n : Nat), k < O.length ∧ svs = [.ptr k, .dat (.int n)] ∧ O[k]? = some (.ins C []) ∧ post (.dat .none) ((O ++ [Ow.lst []]).set k (Ow.ins C [("ins", .dat (.int n)), ("deeds", .ptr O.length)]))
def S_many (C : Addr) (svs : List SV) (O : Rs) (post : Post) : Prop := ∃ (k j n : Nat) (ds : List Deed), svs = [.ptr k] ∧ Bs C O k j n ds ∧ post (.dat (.int (n + ds.length : Nat))) O
def S_put (C : Addr) (svs : List SV) (O : Rs) (post : Post) : Prop := ∃ (k j n : Nat) (ds : List Deed) (less : Bool) (p q : Out), svs = [.ptr k, .dat (.str (wordOf less)), .dat (encO p), .dat (encO q)] ∧ Bs C O k j n ds ∧ ds.length < 900000 ∧ post (.dat (encO ⟨n + ds.length, 0, 1⟩)) (O.set j (dl (ds ++ [⟨less, p.thing, p.shift, q.thing, q.shift⟩])))
def S_summed (C : Addr) (svs : List SV) (O : Rs) (post : Post) : Prop := ∃ (k j n : Nat) (ds : List Deed) (p q : Out), svs = [.ptr k, .dat (encO p), .dat (encO q)] ∧ Bs C O k j n ds ∧ ds.length < 900000 ∧ post (.dat (encO (sumP n ds p q).2)) (O.set j (dl (sumP n ds p q).1))
def S_chained (C : Addr) (svs : List SV) (O : Rs) (post : Post) : Prop := ∃ (k j n : Nat) (ds : List Deed) (ps : List Out), svs = [.ptr k, .dat (.list (ps.map encO))] ∧ Bs C O k j n ds ∧ ds.length + ps.length < 900000 ∧ post (.dat (encO (chainP n ds noOut ps).2)) (O.set j (dl (chainP n ds noOut ps).1))
def S_bweb (C : Addr) (svs : List SV) (O : Rs) (post : Post) : Prop := ∃ (k j n : Nat) (ds : List Deed) (ps : List Out), svs = [.ptr k, .dat (.list (ps.map encO))] ∧ Bs C O k j n ds ∧ post (.dat (encW ⟨n, ds, ps⟩)) O
section
variable {P : Program} {w : World} {K : PySem.W.Frag} {mg : Str → Option Value} {base : Heap} {C : Addr}
theorem sc_12 : FnScope ["number", "far", "shift", "sign"] ["number"] (defScope (top 12)) := ⟨rfl, rfl, rfl, by decide +kernel, rfl, by decide +kernel, by decide +kernel⟩
theorem sc_61 : FnScope ["part"] ["part"] (defScope (top 61)) := ⟨rfl, rfl, rfl, by decide +kernel, rfl, by decide +kernel, by decide +kernel⟩
theorem sc_62 : FnScope ["part", "shift"] ["part", "shift"] (defScope (top 62)) := ⟨rfl, rfl, rfl, by decide +kernel, rfl, by decide +kernel, by decide +kernel⟩
theorem sc_65 : FnScope ["part", "sign"] ["part", "sign"] (defScope (top 65)) := ⟨rfl, rfl, rfl, by decide +kernel, rfl, by decide +kernel, by decide +kernel⟩
theorem sm_0 : FnScope ["self", "ins"] ["self", "ins"] (defScope (meth 63 0)) := ⟨rfl, rfl, rfl, by decide +kernel, rfl, by decide +kernel, by decide +kernel⟩
theorem sm_1 : FnScope ["self"] ["self"] (defScope (meth 63 1)) := ⟨rfl, rfl, rfl, by decide +kernel, rfl, by decide +kernel, by decide +kernel⟩
theorem sm_2 : FnScope ["self", "word", "one", "other"] ["self", "word", "one", "other"] (defScope (meth 63 2)) := ⟨rfl, rfl, rfl, by decide +kernel, rfl, by decide +kernel, by decide +kernel⟩
theorem sm_3 : FnScope ["self", "one", "other", "made"] ["self", "one", "other"] (defScope (meth 63 3)) := ⟨rfl, rfl, rfl, by decide +kernel, rfl, by decide +kernel, by decide +kernel⟩
theorem sm_4 : FnScope ["self", "parts", "found", "part"] ["self", "parts"] (defScope (meth 63 4)) := ⟨rfl, rfl, rfl, by decide +kernel, rfl, by decide +kernel, by decide +kernel⟩
theorem sm_6 : FnScope ["self", "outs"] ["self", "outs"] (defScope (meth 63 6)) := ⟨rfl, rfl, rfl, by decide +kernel, rfl, by decide +kernel, by decide +kernel⟩
theorem low_pow {n : Nat} (h : n ≠ 0) : Builtin.bitAnd (n : Int) (-(n : Int)) = ((2 ^ tzN n : Nat) : Int) := by
  have h1 : decide ((0 : Int) ≤ (n : Int)) = true := decide_eq_true (by omega)
  have h2 : decide ((0 : Int) ≤ -(n : Int)) = false := decide_eq_false (by omega)
  unfold Builtin.bitAnd
  rw [h1, h2]
  have e : (Builtin.bitNot (-(n : Int))).toNat = n - 1 := by unfold Builtin.bitNot; omega
  show (n : Int) - (((n : Int).toNat &&& (Builtin.bitNot (-(n : Int))).toNat : Nat) : Int) = _
  rw [e, Int.toNat_natCast]
  have := low_bit n h
  omega
theorem bits_pow {t : Nat} : Builtin.Int.intBits ((2 ^ t : Nat) : Int) = t + 1 := by
  unfold Builtin.Int.intBits
  have : ¬ (((2 ^ t : Nat) : Int) == 0) = true := by
    rw [beq_iff_eq]
    have : 0 < 2 ^ t := Nat.pow_pos (by decide)
    omega
  rw [if_neg this, Int.natAbs_natCast, Nat.log2_two_pow]
theorem cal_core (B : Bi mg) (D : Df K mg "core" "core" (top 12) ["number"]) : Cal P w K mg base "core" 1 ["number"] (spP K R_core) := by
  refine cal_P (N := ["number", "far", "shift", "sign"]) D sc_12 (by rintro ds d ⟨n, rfl, _⟩; rfl) (by decide) (fun f cdv A outer sh H E hr ds d h => ?_)
  obtain ⟨n, rfl, rfl⟩ := h
  show DS _ _ [.dat (.int n), .un, .un, .un] [] _ _
  refine if1 (dt_eqI (dp_var 0) dp_int) (fun h => ?_) (fun h => ?_)
  · have h0 : n = 0 := of_decide_eq_true h
    refine ret1 (dp_tup (da_cons dp_int (da_cons dp_int (da_cons dp_int da_nil)))) ?_
    unfold coreP; rw [if_pos h0]
  · have h0 : ¬ n = 0 := of_decide_eq_false h
    have hz : n.natAbs ≠ 0 := by omega
    have ea : (if n < 0 then -n else n) = (n.natAbs : Int) := by split <;> omega
    refine set1 1 (d := .int (n.natAbs : Nat)) ((dp_abs B (dp_var 0)).is (by rw [ea])) ?_
    refine set1 2 (d := .int (tzN n.natAbs : Nat)) ((dp_sub (dp_bits (dp_band (dp_var 1) (dp_neg (dp_var 1)))) dp_int).is (by rw [low_pow hz, bits_pow]; congr 1; omega)) ?_
    refine set1 3 dp_int ?_
    have e3 : ((n.natAbs : Nat) : Int) / 2 ^ ((tzN n.natAbs : Nat) : Int).toNat = ((n.natAbs / 2 ^ tzN n.natAbs : Nat) : Int) := by rw [Int.toNat_natCast]; norm_cast
    refine ds_if (mid := fun ρ' O' => ρ' = [.dat (.int n), .dat (.int (n.natAbs : Nat)), .dat (.int (tzN n.natAbs : Nat)), .dat (.int (if n < 0 then -1 else 1))] ∧ O' = []) (dte_pure (dt_lt (dp_var 0) dp_int) ⟨fun h => ?_, fun h => ?_⟩) ?_
    · have hn0 : n < 0 := of_decide_eq_true h
      refine set1 3 (dp_neg dp_int) (ds_nil ⟨?_, rfl⟩)
      rw [if_pos hn0]
    · have hn0 : ¬ n < 0 := of_decide_eq_false h
      refine ds_nil ⟨?_, rfl⟩
      rw [if_neg hn0]
    · rintro ρ' O' ⟨rfl, rfl⟩
      refine ret1 (dp_tup (da_cons (dp_shr (dp_var 1) (dp_var 2) (by omega)) (da_cons (dp_var 2) (da_cons (dp_var 3) da_nil)))) ?_
      unfold coreP; rw [if_neg h0, e3]
theorem cal_turnsign (D : Df K mg "turned_sign" "turned_sign" (top 61) ["part"]) : Cal P w K mg base "turned_sign" 1 ["part"] (spP K R_turnsign) := by
  refine cal_P (N := ["part"]) D sc_61 (by rintro ds d ⟨n, rfl, _⟩; rfl) (by decide) (fun f cdv A outer sh H E hr ds d h => ?_)
  obtain ⟨p, rfl, rfl⟩ := h
  show DS _ _ [.dat (.tuple [.int p.thing, .int p.shift, .int p.sign])] [] _ _
  exact ret1 (dp_tup (da_cons (dp_ixT (dp_var 0) dp_int (d := .int p.thing) rfl) (da_cons (dp_ixT (dp_var 0) dp_int (d := .int p.shift) rfl) (da_cons (dp_neg (dp_ixT (dp_var 0) dp_int (d := .int p.sign) rfl)) da_nil)))) rfl
theorem cal_lifted (N : NF K mg) (D : Df K mg "lifted" "lifted" (top 62) ["part", "shift"]) : Cal P w K mg base "lifted" 1 ["part", "shift"] (spP K R_lifted) := by
  refine cal_P (N := ["part", "shift"]) D sc_62 (by rintro ds d ⟨n, s, rfl, _⟩; rfl) (by decide) (fun f cdv A outer sh H E hr ds d h => ?_)
  obtain ⟨p, s, rfl, rfl⟩ := h
  show DS _ _ [.dat (.tuple [.int p.thing, .int p.shift, .int p.sign]), .dat (.int s)] [] _ _
  refine if1 (dt_eqI (dp_ixT (dp_var 0) dp_int (d := .int p.sign) rfl) dp_int) (fun h => ?_) (fun h => ?_)
  · refine ret1 (dp_nought N) ?_
    unfold liftP; rw [if_pos (of_decide_eq_true h)]
  · refine ret1 (dp_tup (da_cons (dp_ixT (dp_var 0) dp_int (d := .int p.thing) rfl) (da_cons (dp_add (dp_ixT (dp_var 0) dp_int (d := .int p.shift) rfl) (dp_var 1)) (da_cons (dp_ixT (dp_var 0) dp_int (d := .int p.sign) rfl) da_nil)))) ?_
    unfold liftP; rw [if_neg (of_decide_eq_false h)]; rfl
theorem cal_signed (N : NF K mg) (c1 : Cal P w K mg base "turned_sign" 1 ["part"] (spP K R_turnsign)) (D : Df K mg "signed" "signed" (top 65) ["part", "sign"]) : Cal P w K mg base "signed" 2 ["part", "sign"] (spP K R_signed) := by
  refine cal_P (N := ["part", "sign"]) D sc_65 (by rintro ds d ⟨n, s, rfl, _⟩; rfl) (by decide) (fun f cdv A outer sh H E hr ds d h => ?_)
  obtain ⟨p, s, rfl, rfl⟩ := h
  show DS _ _ [.dat (encO p), .dat (.int s)] [] _ _
  refine if1 (dt_eqI (dp_var 1) dp_int) (fun h => ?_) (fun h => ?_)
  · refine ret1 (dp_nought N) ?_
    unfold signP; rw [if_pos (of_decide_eq_true h)]
  · refine if1 (dt_eqI (dp_var 1) dp_int) (fun h2 => ?_) (fun h2 => ?_)
    · refine ret1 (dp_var 0) ?_
      unfold signP; rw [if_neg (of_decide_eq_false h), if_pos (of_decide_eq_true h2)]
    · refine ret1 (dp_call c1 hr rfl (da_cons (dp_var 0) da_nil) ⟨p, rfl, rfl⟩) ?_
      unfold signP; rw [if_neg (of_decide_eq_false h), if_neg (of_decide_eq_false h2)]
theorem mcal_many (B : Bi mg) (cl : Cls K C) (n1 : NoAttr K C "ins") (n2 : NoAttr K C "deeds") (D : Mf K C "many" "Builder.many" (meth 63 1) ["self"]) : MCal P w K mg base C "many" 1 ["self"] (spS K (S_many C)) := by
  refine mcal_S0 (N := ["self"]) D cl sm_1 (by rintro svs O post ⟨k, j, n, ds, rfl, _⟩; rfl) (by decide) (fun f cdv A outer sh H E hr svs O post h => ?_)
  obtain ⟨k, j, n, ds, rfl, hB, hp⟩ := h
  show DS _ _ [.ptr k] O _ _
  refine ds_ret (de_bin op_add (de_fld cl n1 (de_var 0 rfl ⟨k, _, _, rfl, hB.i, rfl, _, rfl, ?_⟩)))
  refine de_lenO (xs := (ds.map encD).map .dat) rfl B.len (de_fld cl n2 (de_var 0 rfl ⟨k, _, _, rfl, hB.i, rfl, rfl, hB.l, _, _, rfl, rd_II, ?_⟩))
  rw [List.length_map, List.length_map]
  have e : (n : Int) + (ds.length : Int) = ((n + ds.length : Nat) : Int) := by omega
  rw [e]
  exact hp

theorem mcal_binit (cl : Cls K C) (n1 : NoAttr K C "ins") (n2 : NoAttr K C "deeds") {f : Addr} {fd : FuncData} (Fn : Fun K "__init__" "Builder.__init__" (meth 63 0) f fd) : FnOk P w K mg base CX0 1 f fd ["self", "ins"] (spS K (S_binit C)) := by
  refine fn_S0 (N := ["self", "ins"]) Fn sm_0 (by rintro svs O post ⟨k, n, _, rfl, _⟩; rfl) (by decide) (fun cdv A outer sh H E hr svs O post h => ?_)
  obtain ⟨k, n, hk, rfl, hi, hp⟩ := h
  show DS _ _ [.ptr k, .dat (.int n)] O _ _
  refine ds_fld cl n1 (de_var 1 rfl (de_var 0 rfl ⟨k, _, rfl, hi, by decide, rfl, ?_⟩))
  have h1 : (O.set k (Ow.ins C [("ins", .dat (.int n))]))[k]? = some (Ow.ins C [("ins", .dat (.int n))]) := List.getElem?_set_self hk
  refine ds_fld cl n2 (de_nil (de_var 0 rfl ⟨k, [("ins", .dat (.int n))], rfl, ?_, by simp, rfl, ds_nil ?_⟩))
  · rw [List.getElem?_append_left (by rw [List.length_set]; exact hk)]; exact h1
  · have e : ∀ (x y : Ow), ((O.set k x ++ [Ow.lst []]).set k y) = ((O ++ [Ow.lst []]).set k y) := fun x y => by
      rw [List.set_append_left _ _ (by rw [List.length_set]; exact hk), List.set_set, List.set_append_left _ _ hk]
    rw [e, List.length_set]
    exact hp
theorem mcal_put (B : Bi mg) (cl : Cls K C) (n1 : NoAttr K C "ins") (n2 : NoAttr K C "deeds") (m1 : MCal P w K mg base C "many" 1 ["self"] (spS K (S_many C))) (D : Mf K C "put" "Builder.put" (meth 63 2) ["self", "word", "one", "other"]) : MCal P w K mg base C "put" 2 ["self", "word", "one", "other"] (spS K (S_put C)) := by
  refine mcal_S0 (N := ["self", "word", "one", "other"]) D cl sm_2 (by rintro svs O post ⟨k, j, n, ds, l, p, q, rfl, _⟩; rfl) (by decide) (fun f cdv A outer sh H E hr svs O post h => ?_)
  obtain ⟨k, j, n, ds, less, p, q, rfl, hB, hl, hp⟩ := h
  show DS _ _ [.ptr k, .dat (.str (wordOf less)), .dat (.tuple [.int p.thing, .int p.shift, .int p.sign]), .dat (.tuple [.int q.thing, .int q.shift, .int q.sign])] O _ _
  refine ds_expr (de_append (de_fld cl n2 (de_var 0 rfl ⟨k, _, _, rfl, hB.i, rfl, j, _, rfl, hB.l, de_pure (dp_tup (da_cons (dp_var 1) (da_cons (dp_ixT (dp_var 2) dp_int (d := .int p.thing) rfl) (da_cons (dp_ixT (dp_var 2) dp_int (d := .int p.shift) rfl) (da_cons (dp_ixT (dp_var 3) dp_int (d := .int q.thing) rfl) (da_cons (dp_ixT (dp_var 3) dp_int (d := .int q.shift) rfl) da_nil)))))) ⟨_, hB.l, ?_, ?_⟩⟩)))
  · rw [List.length_map, List.length_map]; omega
  have e1 : (O.set j (Ow.lst ((ds.map encD).map SV.dat ++ [SV.dat (.tuple [.str (wordOf less), .int p.thing, .int p.shift, .int q.thing, .int q.shift])]))) = O.set j (dl (ds ++ [⟨less, p.thing, p.shift, q.thing, q.shift⟩])) := by unfold dl; simp [encD]
  rw [e1]
  have hB2 := hB.set (es := ds ++ [⟨less, p.thing, p.shift, q.thing, q.shift⟩])
  refine ds_ret (de_tupE (dae_cons (de_bin op_sub (de_meth0 m1 hr (de_var 0 rfl ⟨k, _, rfl, hB2.i, rfl, k, j, n, _, rfl, hB2, _, rfl, de_pure dp_int ⟨_, _, rfl, rd_II, ?_⟩⟩)))))
  refine dae_pure (da_cons dp_int (da_cons dp_int da_nil)) ⟨[_, _, _], rfl, by simp, ?_⟩
  have e2 : ((n + (ds ++ [(⟨less, p.thing, p.shift, q.thing, q.shift⟩ : Deed)]).length : Nat) : Int) - 1 = ((n + ds.length : Nat) : Int) := by simp; omega
  rw [e2]
  exact hp
theorem mcal_summed (cl : Cls K C) (m2 : MCal P w K mg base C "put" 2 ["self", "word", "one", "other"] (spS K (S_put C))) (D : Mf K C "summed" "Builder.summed" (meth 63 3) ["self", "one", "other"]) : MCal P w K mg base C "summed" 3 ["self", "one", "other"] (spS K (S_summed C)) := by
  refine mcal_S0 (N := ["self", "one", "other", "made"]) D cl sm_3 (by rintro svs O post ⟨k, j, n, ds, p, q, rfl, _⟩; rfl) (by decide) (fun f cdv A outer sh H E hr svs O post h => ?_)
  obtain ⟨k, j, n, ds, p, q, rfl, hB, hl, hp⟩ := h
  show DS _ _ [.ptr k, .dat (.tuple [.int p.thing, .int p.shift, .int p.sign]), .dat (.tuple [.int q.thing, .int q.shift, .int q.sign]), .un] O _ _
  have ix1 : ∀ {X : Cx} {a b : Expr} {δ : Dl} {pos : Pos}, True := trivial
  refine if1 (dt_eqI (dp_ixT (dp_var 1) dp_int (d := .int p.sign) rfl) dp_int) (fun h => ?_) (fun h => ?_)
  · have h0 : p.sign = 0 := of_decide_eq_true h
    unfold sumP at hp
    rw [if_pos h0, hB.same] at hp
    exact ret1 (dp_var 2) hp
  have h0 : ¬ p.sign = 0 := of_decide_eq_false h
  refine if1 (dt_eqI (dp_ixT (dp_var 2) dp_int (d := .int q.sign) rfl) dp_int) (fun h => ?_) (fun h => ?_)
  · have h1 : q.sign = 0 := of_decide_eq_true h
    unfold sumP at hp
    rw [if_neg h0, if_pos h1, hB.same] at hp
    exact ret1 (dp_var 1) hp
  have h1 : ¬ q.sign = 0 := of_decide_eq_false h
  refine if1 (dt_eqI (dp_ixT (dp_var 1) dp_int (d := .int p.sign) rfl) (dp_ixT (dp_var 2) dp_int (d := .int q.sign) rfl)) (fun h => ?_) (fun h => ?_)
  · have h2 : p.sign = q.sign := of_decide_eq_true h
    unfold sumP at hp
    rw [if_neg h0, if_neg h1, if_pos h2] at hp
    refine setE 3 (de_meth m2 hr (de_var 0 rfl ⟨k, _, rfl, hB.i, rfl, dae_pure (da_cons dp_str (da_cons (dp_var 1) (da_cons (dp_var 2) da_nil))) ⟨k, j, n, ds, false, p, q, rfl, hB, hl, ?_⟩⟩))
    exact ret1 (dp_tup (da_cons (dp_ixT (dp_var 3) dp_int (d := .int (n + ds.length : Nat)) rfl) (da_cons dp_int (da_cons (dp_ixT (dp_var 1) dp_int (d := .int p.sign) rfl) da_nil)))) hp
  have h2 : ¬ p.sign = q.sign := of_decide_eq_false h
  refine if1 (dt_eqI (dp_ixT (dp_var 1) dp_int (d := .int p.sign) rfl) dp_int) (fun h => ?_) (fun h => ?_)
  · have h3 : p.sign = 1 := of_decide_eq_true h
    unfold sumP at hp
    rw [if_neg h0, if_neg h1, if_neg h2, if_pos h3] at hp
    exact ds_ret (de_meth m2 hr (de_var 0 rfl ⟨k, _, rfl, hB.i, rfl, dae_pure (da_cons dp_str (da_cons (dp_var 1) (da_cons (dp_var 2) da_nil))) ⟨k, j, n, ds, true, p, q, rfl, hB, hl, hp⟩⟩))
  · have h3 : ¬ p.sign = 1 := of_decide_eq_false h
    unfold sumP at hp
    rw [if_neg h0, if_neg h1, if_neg h2, if_neg h3] at hp
    exact ds_ret (de_meth m2 hr (de_var 0 rfl ⟨k, _, rfl, hB.i, rfl, dae_pure (da_cons dp_str (da_cons (dp_var 2) (da_cons (dp_var 1) da_nil))) ⟨k, j, n, ds, true, q, p, rfl, hB, hl, hp⟩⟩))
theorem mcal_chained (cl : Cls K C) (N : NF K mg) (m3 : MCal P w K mg base C "summed" 3 ["self", "one", "other"] (spS K (S_summed C))) (D : Mf K C "chained" "Builder.chained" (meth 63 4) ["self", "parts"]) : MCal P w K mg base C "chained" 4 ["self", "parts"] (spS K (S_chained C)) := by
  refine mcal_S0 (N := ["self", "parts", "found", "part"]) D cl sm_4 (by rintro svs O post ⟨k, j, n, ds, ps, rfl, _⟩; rfl) (by decide) (fun f cdv A outer sh H E hr svs O post h => ?_)
  obtain ⟨k, j, n, ds, ps, rfl, hB, hl, hp⟩ := h
  show DS _ _ [.ptr k, .dat (.list (ps.map encO)), .un, .un] O _ _
  refine set1 2 (dp_nought N) ?_
  refine ds_for (die_pure (di_list (dp_var 1)) ⟨fun i ρ' O' => ∃ a, ρ' = [.ptr k, .dat (.list (ps.map encO)), .dat (encO (chainP n ds noOut (ps.take i)).2), a] ∧ O' = O.set j (dl (chainP n ds noOut (ps.take i)).1), ⟨_, rfl, hB.same.symm⟩, ?_, ?_⟩)
  · rintro i y ρ' O' hx ⟨a, rfl, rfl⟩
    obtain ⟨q, hq, rfl⟩ := get_map hx
    have hi := get_lt hq
    refine ⟨[(3, encO q)], dgn 3, nrm ?_⟩
    have hB2 := hB.set (es := (chainP n ds noOut (ps.take i)).1)
    have hlen := chainP_len (n := n) (ps := ps.take i) (ds := ds) (p := noOut)
    rw [List.length_take] at hlen
    have tk : chainP n ds noOut (ps.take (i + 1)) = sumP n (chainP n ds noOut (ps.take i)).1 (chainP n ds noOut (ps.take i)).2 q := by
      unfold chainP; rw [take_succ_snoc hq, List.foldl_append]; rfl
    refine setE 2 (de_meth m3 hr (de_var 0 rfl ⟨k, _, rfl, hB2.i, rfl, dae_pure (da_cons (dp_var 2) (da_cons (dp_var 3) da_nil)) ⟨k, j, n, _, _, q, rfl, hB2, by omega, ds_nil ⟨.dat (encO q), ?_, ?_⟩⟩⟩))
    · rw [tk]
    · rw [tk, List.set_set]
  · rintro ρ' O' ⟨a, rfl, rfl⟩
    rw [List.length_map, List.take_length]
    exact ret1 (dp_var 2) hp
theorem mcal_bweb (B : Bi mg) (cl : Cls K C) (n1 : NoAttr K C "ins") (n2 : NoAttr K C "deeds") (D : Mf K C "web" "Builder.web" (meth 63 6) ["self", "outs"]) : MCal P w K mg base C "web" 1 ["self", "outs"] (spS K (S_bweb C)) := by
  refine mcal_S0 (N := ["self", "outs"]) D cl sm_6 (by rintro svs O post ⟨k, j, n, ds, ps, rfl, _⟩; rfl) (by decide) (fun f cdv A outer sh H E hr svs O post h => ?_)
  obtain ⟨k, j, n, ds, ps, rfl, hB, hp⟩ := h
  show DS _ _ [.ptr k, .dat (.list (ps.map encO))] O _ _
  exact ds_ret (de_tupE (dae_cons (de_fld cl n1 (de_var 0 rfl ⟨k, _, _, rfl, hB.i, rfl, dae_cons (de_listO B (de_fld cl n2 (de_var 0 rfl ⟨k, _, _, rfl, hB.i, rfl, j, _, rfl, hB.l, dae_pure (da_cons (dp_list B (dp_var 1)) da_nil) ⟨[.int n, .list (ds.map encD), .list (ps.map encO)], rfl, by simp, hp⟩⟩)))⟩))))
end
end SS
set_option maxHeartbeats 4000000
set_option exponentiation.threshold 100
/-! The walks, six: tidy.py. -/
namespace SS
open PySem PySem.Spec PyProof.Rows L2
theorem ixN_nat {n a : Nat} (h : a < n) : ixN n (a : Int) = some a := by
  unfold ixN; rw [if_pos (by omega), if_pos (by omega), Int.toNat_natCast]
def R_used (ds : List PyData) (d : PyData) : Prop := ∃ x : Web, x.ok ∧ ds = [encW x] ∧ d = .list (x.used.map .bool)
def R_pruned (ds : List PyData) (d : PyData) : Prop := ∃ x : Web, x.ok ∧ ds = [encW x] ∧ d = encW x.pruned
theorem bls_at {v : List Bool} {a : Nat} (h : a < v.length) : atI (v.map PyData.bool) (a : Int) = some (.bool (v.getD a false)) := atI_nat (by rw [List.getElem?_map, getD_at (z := false) h]; rfl)
theorem nats_at {v : List Nat} {a : Nat} (h : a < v.length) : atI (v.map fun n : Nat => PyData.int n) (a : Int) = some (.int (v.getD a 0 : Nat)) := atI_nat (by rw [List.getElem?_map, getD_at (z := 0) h]; rfl)
theorem deed_facts {x : Web} (h : x.ok) {k : Nat} {d : Deed} (e : x.deeds[k]? = some d) : d.a < x.ins + k ∧ d.b < x.ins + k := by
  have hD := okDs_at h.ds e
  have hk := get_lt e
  have hL : (grow stepR (unitRows x.ins) (x.deeds.take k)).length = x.ins + k := by rw [grow_len, unitRows_len, List.length_take]; omega
  rw [← hL]; exact ⟨hD.1, hD.2.1⟩
def bl (f : List Bool) : Ow := .lst ((f.map PyData.bool).map .dat)
theorem bl_set {f : List Bool} {a : Nat} : Ow.lst (((f.map PyData.bool).map SV.dat).set a (.dat (.bool true))) = bl (f.set a true) := by unfold bl; rw [List.map_set, List.map_set]
section
variable {P : Program} {w : World} {K : PySem.W.Frag} {mg : Str → Option Value} {base : Heap} {C : Addr}
theorem sc_89 : FnScope ["web", "ins", "deeds", "outs", "found", "thing", "shift", "sign", "k"] ["web"] (defScope (top 89)) := ⟨rfl, rfl, rfl, by decide +kernel, rfl, by decide +kernel, by decide +kernel⟩
theorem sc_90 : FnScope ["web", "ins", "deeds", "outs", "told", "anew", "kept", "k", "word", "a", "s", "b", "t", "thing", "shift", "sign"] ["web"] (defScope (top 90)) := ⟨rfl, rfl, rfl, by decide +kernel, rfl, by decide +kernel, by decide +kernel⟩
theorem cal_used (B : Bi mg) (D : Df K mg "used" "used" (top 89) ["web"]) : Cal P w K mg base "used" 1 ["web"] (spP K R_used) := by
  refine cal_P (N := ["web", "ins", "deeds", "outs", "found", "thing", "shift", "sign", "k"]) D sc_89 (by rintro ds d ⟨x, _, rfl, _⟩; rfl) (by decide) (fun f cdv A outer sh H E hr ds d h => ?_)
  obtain ⟨x, hok, rfl, rfl⟩ := h
  have hi2 := hok.i2
  have hdl := hok.dl
  have hol := hok.ol
  show DS _ _ [.dat (.tuple [.int x.ins, .list (x.deeds.map encD), .list (x.outs.map encO)]), .un, .un, .un, .un, .un, .un, .un, .un] [] _ _
  refine tup1 (dp_var 0) (dg_tup rfl (dgs_cons (dgn 1) (dgs_cons (dgn 2) (dgs_cons (dgn 3) dgs_nil)))) ?_
  refine setLO 4 [("k", 8)] (List.range (x.ins + x.deeds.length)) (fun i : Nat => .int i) (fun _ => .bool false) (fun i => [(8, .int i)]) ?_ (fun x _ s H C cl fp => dgn 8) (fun n hn s H C cl fp => ?_) ?_ (by rw [List.length_range]; omega)
  · rw [rng_enc]; exact di_rng1 rfl B.range (dp_add (dp_var 1) (dp_len B (dp_var 2))) (by simp; omega) (by omega) (by simp; omega)
  · exact dp_bl
  have e0 : ((List.range (x.ins + x.deeds.length)).map fun _ => PyData.bool false) = (List.replicate (x.ins + x.deeds.length) false).map PyData.bool := by
    rw [List.map_replicate, List.map_const', List.length_range]
  rw [e0]
  show DS _ _ _ [bl (List.replicate (x.ins + x.deeds.length) false)] _ _
  refine ds_for (die_pure (di_list (dp_var 3)) ⟨fun i ρ' O' => ∃ a b c, ρ' = [.dat (encW x), .dat (.int x.ins), .dat (.list (x.deeds.map encD)), .dat (.list (x.outs.map encO)), .ptr 0, a, b, c, .un] ∧ O' = [bl ((x.outs.take i).foldl useO (List.replicate (x.ins + x.deeds.length) false))], ⟨_, _, _, rfl, rfl⟩, ?_, ?_⟩)
  · rintro i y ρ' O' hx ⟨a, b, c, rfl, rfl⟩
    obtain ⟨o, ho, rfl⟩ := get_map hx
    obtain ⟨h1, _, _⟩ := out_facts hok (List.mem_of_getElem? ho)
    refine ⟨_, dg_tup rfl (dgs_cons (dgn 5) (dgs_cons (dgn 6) (dgs_cons (dgn 7) dgs_nil))), nrm ?_⟩
    have tk : (x.outs.take (i + 1)).foldl useO (List.replicate (x.ins + x.deeds.length) false) = useO ((x.outs.take i).foldl useO (List.replicate (x.ins + x.deeds.length) false)) o := by rw [take_succ_snoc ho, List.foldl_append]; rfl
    have hlen : ((x.outs.take i).foldl useO (List.replicate (x.ins + x.deeds.length) false)).length = x.ins + x.deeds.length := by rw [foldO_len]; simp
    generalize (x.outs.take i).foldl useO (List.replicate (x.ins + x.deeds.length) false) = g at *
    refine ds_if (mid := fun ρ' O' => (∃ a b c, ρ' = [.dat (encW x), .dat (.int x.ins), .dat (.list (x.deeds.map encD)), .dat (.list (x.outs.map encO)), .ptr 0, a, b, c, .un]) ∧ O' = [bl (useO g o)]) (dte_pure (dt_neI (dp_var 7) dp_int) ⟨fun h => ?_, fun h => ?_⟩) ?_
    · have hs : ¬ o.sign = 0 := by simpa using h
      refine ds_setitem (de_pure dp_bl (de_var 4 rfl ⟨0, rfl, de_pure (dp_var 5) ⟨o.thing, o.thing, _, rfl, rfl, ?_, ds_nil ⟨⟨_, _, _, rfl⟩, ?_⟩⟩⟩))
      · exact ixN_nat (by rw [List.length_map, List.length_map, hlen]; exact h1)
      · unfold useO; rw [if_neg hs, ← bl_set]; rfl
    · have hs : o.sign = 0 := by simpa using h
      refine ds_nil ⟨⟨_, _, _, rfl⟩, ?_⟩
      unfold useO; rw [if_pos hs]
    · rintro ρ' O' ⟨⟨a, b, c, rfl⟩, rfl⟩
      exact ds_nil ⟨_, _, _, rfl, by rw [tk]⟩
  · rintro ρ' O' ⟨a, b, c, rfl, rfl⟩
    rw [List.length_map, List.take_length]
    show DS _ _ _ [bl x.usedO] _ _
    have hrl : (rngD 0 x.deeds.length).reverse.length = x.deeds.length := by unfold rngD; simp
    refine ds_for (die_pure (di_rev (m := x.deeds.length) B (dp_len B (dp_var 2)) (by simp) (by omega) (by omega)) ⟨fun i ρ' O' => ∃ a b c d, ρ' = [.dat (encW x), .dat (.int x.ins), .dat (.list (x.deeds.map encD)), .dat (.list (x.outs.map encO)), .ptr 0, a, b, c, d] ∧ O' = [bl (((List.range x.deeds.length).reverse.take i).foldl (useD x) x.usedO)], ⟨_, _, _, _, rfl, rfl⟩, ?_, ?_⟩)
    · rintro i y ρ' O' hx ⟨a, b, c, d, rfl, rfl⟩
      have hx2 : ((List.range x.deeds.length).reverse.map fun k : Nat => PyData.int (0 + (k : Nat)))[i]? = some y := by rw [List.map_reverse]; exact hx
      obtain ⟨k, hk, rfl⟩ := get_map hx2
      have hkl : k < x.deeds.length := by have := List.mem_of_getElem? hk; simpa using this
      have he := List.getElem?_eq_getElem hkl
      generalize hed : x.deeds[k] = e at he
      obtain ⟨ha, hb⟩ := deed_facts hok he
      have tk : ((List.range x.deeds.length).reverse.take (i + 1)).foldl (useD x) x.usedO = useD x (((List.range x.deeds.length).reverse.take i).foldl (useD x) x.usedO) k := by rw [take_succ_snoc hk, List.foldl_append]; rfl
      have hlen : (((List.range x.deeds.length).reverse.take i).foldl (useD x) x.usedO).length = x.ins + x.deeds.length := by rw [foldD_len, Web.usedO_len]
      generalize ((List.range x.deeds.length).reverse.take i).foldl (useD x) x.usedO = g at *
      refine ⟨[(8, _)], dgn 8, nrm ?_⟩
      have eik : (x.ins : Int) + (0 + (k : Nat)) = ((x.ins + k : Nat) : Int) := by omega
      have eat : atI (x.deeds.map encD) (0 + (k : Nat)) = some (encD e) := by rw [Int.zero_add]; exact atI_nat (by rw [List.getElem?_map, he]; rfl)
      refine ds_if (mid := fun ρ' O' => (∃ a b c d, ρ' = [.dat (encW x), .dat (.int x.ins), .dat (.list (x.deeds.map encD)), .dat (.list (x.outs.map encO)), .ptr 0, a, b, c, d]) ∧ O' = [bl (useD x g k)]) (dte_borrow (b := g.getD (x.ins + k) false) [none, some (.int x.ins), none, none, some (.list (g.map .bool)), none, none, none, some (.int (0 + (k : Nat)))] (.no (.yes (.dat _) (.no (.no (.yes (.ptr rfl vds_map) (.no (.no (.no (.yes (.dat _) .nil))))))))) (dt_val (dp_ixL (dp_var 4) (dp_add (dp_var 1) (dp_var 8)) (by rw [eik]; exact bls_at (by omega)))) ⟨fun h => ?_, fun h => ?_⟩) ?_
      · refine ds_setitem (de_pure dp_bl (de_var 4 rfl ⟨0, rfl, de_pure (dp_ixT (dp_ixL (dp_var 2) (dp_var 8) eat) dp_int (d := .int e.a) rfl) ⟨e.a, e.a, _, rfl, rfl, ?_, ?_⟩⟩))
        · exact ixN_nat (by rw [List.length_map, List.length_map, hlen]; omega)
        rw [bl_set]
        refine ds_setitem (de_pure dp_bl (de_var 4 rfl ⟨0, rfl, de_pure (dp_ixT (dp_ixL (dp_var 2) (dp_var 8) eat) dp_int (d := .int e.b) rfl) ⟨e.b, e.b, _, rfl, rfl, ?_, ds_nil ⟨⟨_, _, _, _, rfl⟩, ?_⟩⟩⟩))
        · exact ixN_nat (by rw [List.length_map, List.length_map, List.length_set, hlen]; omega)
        · rw [bl_set]; unfold useD; rw [he]; dsimp only; rw [if_pos h]; rfl
      · refine ds_nil ⟨⟨_, _, _, _, rfl⟩, ?_⟩
        unfold useD; rw [he]; dsimp only; rw [if_neg (by rw [h]; decide)]
      · rintro ρ' O' ⟨⟨a, b, c, d, rfl⟩, rfl⟩
        exact ds_nil ⟨_, _, _, _, rfl, by rw [tk]⟩
    · rintro ρ' O' ⟨a, b, c, d, rfl, rfl⟩
      rw [hrl, List.take_of_length_le (by simp)]
      exact ds_freeze 0 4 rfl rfl (ret1 (dp_var 4) rfl)

def nn (v : List Nat) : Ow := .lst ((v.map fun n : Nat => PyData.int n).map .dat)
theorem nn_snoc {v : List Nat} {n : Nat} : Ow.lst ((v.map fun n : Nat => PyData.int n).map SV.dat ++ [.dat (.int n)]) = nn (v ++ [n]) := by unfold nn; simp
theorem dl_snoc {ds : List Deed} {d : Deed} : Ow.lst ((ds.map encD).map SV.dat ++ [.dat (encD d)]) = dl (ds ++ [d]) := by unfold dl; simp
theorem natAbs_if (s : Int) : (if s < 0 then -s else s) = ((s.natAbs : Nat) : Int) := by split <;> omega
theorem pruL_le {x : Web} : ∀ k, ∀ n ∈ (x.pruL k).1, n ≤ x.ins + k
  | 0, n, hn => by simp [Web.pruL] at hn; omega
  | k + 1, n, hn => by
    obtain ⟨_, h2⟩ := x.pruL_len k
    rw [Web.pruL_succ] at hn
    unfold pruS at hn
    rcases List.mem_append.mp hn with q | q
    · have := pruL_le k n q; omega
    · have := List.mem_singleton.mp q; omega
theorem cal_pruned (B : Bi mg) (c1 : Cal P w K mg base "used" 1 ["web"] (spP K R_used)) (D : Df K mg "pruned" "pruned" (top 90) ["web"]) : Cal P w K mg base "pruned" 2 ["web"] (spP K R_pruned) := by
  refine cal_P (N := ["web", "ins", "deeds", "outs", "told", "anew", "kept", "k", "word", "a", "s", "b", "t", "thing", "shift", "sign"]) D sc_90 (by rintro ds d ⟨x, _, rfl, _⟩; rfl) (by decide) (fun f cdv A outer sh H E hr ds d h => ?_)
  obtain ⟨x, hok, rfl, rfl⟩ := h
  have hi2 := hok.i2
  have hdl := hok.dl
  have hol := hok.ol
  show DS _ _ [.dat (.tuple [.int x.ins, .list (x.deeds.map encD), .list (x.outs.map encO)]), .un, .un, .un, .un, .un, .un, .un, .un, .un, .un, .un, .un, .un, .un, .un] [] _ _
  refine tup1 (dp_var 0) (dg_tup rfl (dgs_cons (dgn 1) (dgs_cons (dgn 2) (dgs_cons (dgn 3) dgs_nil)))) ?_
  refine set1 4 (dp_call c1 hr rfl (da_cons (dp_var 0) da_nil) ⟨x, hok, rfl, rfl⟩) ?_
  refine setE 5 (de_own (df_listRg (m := x.ins) B (dp_var 1) (by simp) (by omega) (by omega)) ?_)
  refine setE 6 (de_nil ?_)
  have e0 : (rngD 0 x.ins).map SV.dat = ((List.range x.ins).map fun n : Nat => PyData.int n).map SV.dat := by rw [rng_enc]
  rw [e0]
  show DS _ _ _ [nn (List.range x.ins), dl []] _ _
  refine ds_for (die_pure (di_rng1 (m := x.deeds.length) rfl B.range (dp_len B (dp_var 2)) (by simp) (by omega) (by simp)) ⟨fun i ρ' O' => ∃ a b c d e g, ρ' = [.dat (encW x), .dat (.int x.ins), .dat (.list (x.deeds.map encD)), .dat (.list (x.outs.map encO)), .dat (.list (x.used.map .bool)), .ptr 0, .ptr 1, a, b, c, d, e, g, .un, .un, .un] ∧ O' = [nn (x.pruL i).1, dl (x.pruL i).2], ⟨_, _, _, _, _, _, rfl, rfl⟩, ?_, ?_⟩)
  · rintro i y ρ' O' hx ⟨a, b, c, d, e', g, rfl, rfl⟩
    obtain ⟨hi, rfl⟩ := rngD_get hx
    have he := List.getElem?_eq_getElem hi
    generalize hed : x.deeds[i] = e at he
    obtain ⟨ha, hb⟩ := deed_facts hok he
    obtain ⟨l1, l2⟩ := x.pruL_len i
    have tk := x.pruL_succ (k := i)
    generalize hacc : x.pruL i = acc at *
    obtain ⟨an, kp⟩ := acc
    dsimp only at l1 l2
    have eik : (x.ins : Int) + (0 + (i : Nat)) = ((x.ins + i : Nat) : Int) := by omega
    have eat : atI (x.deeds.map encD) (0 + (i : Nat)) = some (encD e) := by rw [Int.zero_add]; exact atI_nat (by rw [List.getElem?_map, he]; rfl)
    refine ⟨[(7, _)], dgn 7, nrm ?_⟩
    refine ds_expr (de_append (de_var 5 rfl ⟨0, _, rfl, rfl, de_borrow [none, some (.int x.ins), none, none, none, none, some (.list (kp.map encD)), none, none, none, none, none, none, none, none, none] (.no (.yes (.dat _) (.no (.no (.no (.no (.yes (.ptr rfl vds_map) (.no (.no (.no (.no (.no (.no (.no (.no (.no .nil)))))))))))))))) (d := .int (x.ins + kp.length : Nat)) ((dp_add (dp_var 1) (dp_len B (dp_var 6))).is (by rw [List.length_map]; congr 1)) rfl ⟨_, rfl, ?_, ?_⟩⟩))
    · simp only [List.length_map]; omega
    rw [nn_snoc]
    show DS _ _ _ [nn (an ++ [x.ins + kp.length]), dl kp] _ _
    have hU : x.used.length = x.ins + x.deeds.length := x.used_len
    have la : (an ++ [x.ins + kp.length]).length = x.ins + i + 1 := by simp; omega
    generalize hAN : an ++ [x.ins + kp.length] = AN at *
    have tk2 : x.pruL (i + 1) = (AN, if x.used.getD (x.ins + i) false = true then kp ++ [⟨e.less, AN.getD e.a 0, e.s, AN.getD e.b 0, e.t⟩] else kp) := by
      rw [tk]; unfold pruS; dsimp only; rw [hAN, he]
    refine ds_if (mid := fun ρ' O' => (∃ a b c d e g, ρ' = [.dat (encW x), .dat (.int x.ins), .dat (.list (x.deeds.map encD)), .dat (.list (x.outs.map encO)), .dat (.list (x.used.map .bool)), .ptr 0, .ptr 1, a, b, c, d, e, g, .un, .un, .un]) ∧ O' = [nn AN, dl (x.pruL (i + 1)).2]) (dte_pure (b := x.used.getD (x.ins + i) false) (dt_val (dp_ixL (dp_var 4) (dp_add (dp_var 1) (dp_var 7)) (by rw [eik]; exact bls_at (by omega)))) ⟨fun h => ?_, fun h => ?_⟩) ?_
    · refine tup1 (dp_ixL (dp_var 2) (dp_var 7) eat) (dg_tup rfl (dgs_cons (dgn 8) (dgs_cons (dgn 9) (dgs_cons (dgn 10) (dgs_cons (dgn 11) (dgs_cons (dgn 12) dgs_nil)))))) ?_
      refine ds_expr (de_append (de_var 6 rfl ⟨1, _, rfl, rfl, de_borrow [none, none, none, none, none, some (.list (AN.map fun n : Nat => .int n)), none, none, some (.str (wordOf e.less)), some (.int e.a), some (.int e.s), some (.int e.b), some (.int e.t), none, none, none] (.no (.no (.no (.no (.no (.yes (.ptr rfl vds_map) (.no (.no (.yes (.dat _) (.yes (.dat _) (.yes (.dat _) (.yes (.dat _) (.yes (.dat _) (.no (.no (.no .nil)))))))))))))))) (d := encD ⟨e.less, AN.getD e.a 0, e.s, AN.getD e.b 0, e.t⟩) (dp_tup (da_cons (dp_var 8) (da_cons (dp_ixL (dp_var 5) (dp_var 9) (nats_at (by omega))) (da_cons (dp_var 10) (da_cons (dp_ixL (dp_var 5) (dp_var 11) (nats_at (by omega))) (da_cons (dp_var 12) da_nil)))))) rfl ⟨_, rfl, ?_, ds_nil ⟨⟨_, _, _, _, _, _, rfl⟩, ?_⟩⟩⟩))
      · rw [List.length_map, List.length_map]; omega
      · rw [dl_snoc, tk2, if_pos h]; rfl
    · refine ds_nil ⟨⟨_, _, _, _, _, _, rfl⟩, ?_⟩
      rw [tk2, if_neg (by rw [h]; decide)]
    · rintro ρ' O' ⟨⟨a, b, c, d, e, g, rfl⟩, rfl⟩
      exact ds_nil ⟨_, _, _, _, _, _, rfl, by rw [tk2]⟩
  · rintro ρ' O' ⟨a, b, c, d, e, g, rfl, rfl⟩
    have hrl : (rngD 0 x.deeds.length).length = x.deeds.length := by unfold rngD; simp
    rw [hrl]
    obtain ⟨l1, l2⟩ := x.pruL_len x.deeds.length
    refine ds_freeze 0 5 rfl rfl (ds_freeze 1 6 rfl rfl (nrm ?_))
    refine ret1 (dp_tup (da_cons (dp_var 1) (da_cons (dp_var 6) (da_cons (lcp [("thing", 13), ("shift", 14), ("sign", 15)] x.outs encO (fun o => encO (pruO (x.pruL x.deeds.length).1 o)) (fun o => [(13, .int o.thing), (14, .int o.shift), (15, .int o.sign)]) (di_list (dp_var 3)) (fun o _ s H C cl fp => dg_tup rfl (dgs_cons (dgn 13) (dgs_cons (dgn 14) (dgs_cons (dgn 15) dgs_nil)))) (fun o ho s H C cl fp => ?_) rfl (by omega)) da_nil)))) ?_
    · obtain ⟨h1, h2, h3⟩ := out_facts hok ho
      have hlt := pruL_le (x := x) x.deeds.length _ (getD_mem (z := 0) (by omega : o.thing < (x.pruL x.deeds.length).1.length))
      refine (dp_tup (da_cons (dp_mul (dp_ixL (dp_var 5) (dp_var 13) (nats_at (by omega))) ((dp_abs B (dp_var 15)).is (by rw [natAbs_if])) ?_) (da_cons (dp_var 14) (da_cons (dp_var 15) da_nil)))).is ?_
      · exact mulx_ok (a := 10) (b := 2) (by omega) (by rcases h3 with q | q | q <;> rw [q] <;> decide) (by decide)
      · unfold encO pruO; simp
    · show SV.dat _ = _
      unfold Web.pruned encW; simp [List.map_map, Function.comp_def]

def formD (r : Row) : PyData := if nz r = [] then .tuple [.tuple [], .int 0, .int 0] else .tuple [.dict [(.tuple ((formN r).map .int), .none)], .int (formS r), .int (formG r)]
def R_form (ds : List PyData) (d : PyData) : Prop := ∃ r : Row, ds = [encT r] ∧ r.length ≤ 12 ∧ (∀ n ∈ r, n.natAbs ≤ 2 ^ 1000000) ∧ d = formD r
def encC (n : Int) : PyData := .tuple [.int (coreP n).1, .int (coreP n).2.1, .int (coreP n).2.2]
theorem sc_91 : FnScope ["row", "there", "shift", "sign", "number", "one"] ["row"] (defScope (top 91)) := ⟨rfl, rfl, rfl, by decide +kernel, rfl, by decide +kernel, by decide +kernel⟩
theorem tz_nonneg {n : Int} : 0 ≤ (coreP n).2.1 := by unfold coreP; split <;> simp
theorem formS_nonneg {r : Row} (h : nz r ≠ []) : 0 ≤ formS r := by
  obtain ⟨h1, _⟩ := minL_mem (l := (nz r).map fun n => (coreP n).2.1) (by simpa using h)
  obtain ⟨n, _, e⟩ := List.mem_map.mp h1
  unfold formS; rw [← e]; exact tz_nonneg
theorem core_sign {n : Int} (h : n ≠ 0) : (coreP n).2.2 = if n < 0 then -1 else 1 := by unfold coreP; rw [if_neg h]
theorem formG_pm {r : Row} (h : nz r ≠ []) : formG r = 1 ∨ formG r = -1 := by
  unfold formG
  cases e : nz r with
  | nil => exact absurd e h
  | cons n l =>
    have hn : n ≠ 0 := by
      have : n ∈ nz r := by rw [e]; exact List.mem_cons_self
      unfold nz at this
      simpa using (List.mem_filter.mp this).2
    show (coreP n).2.2 = 1 ∨ (coreP n).2.2 = -1
    rw [core_sign hn]; split
    · exact .inr rfl
    · exact .inl rfl
theorem cal_form (B : Bi mg) (c1 : Cal P w K mg base "core" 1 ["number"] (spP K R_core)) (D : Df K mg "form" "form" (top 91) ["row"]) : Cal P w K mg base "form" 2 ["row"] (spP K R_form) := by
  refine cal_P (N := ["row", "there", "shift", "sign", "number", "one"]) D sc_91 (by rintro ds d ⟨r, rfl, _⟩; rfl) (by decide) (fun f cdv A outer sh H E hr ds d h => ?_)
  obtain ⟨r, rfl, hl, hb, rfl⟩ := h
  show DS _ _ [.dat (encT r), .un, .un, .un, .un, .un] [] _ _
  refine setLf 1 [("number", 4)] r .int encC (fun n => !decide (n = 0)) (fun n => [(4, .int n)]) (di_tup (dp_var 0)) (fun n _ s H C cl fp => dgn 4) (fun n _ s H C cl fp => ?_) (fun n _ _ s H C cl fp => ?_) ?_ (by omega)
  · exact dt_neI (dp_var 4) dp_int
  · exact dp_call c1 hr rfl (da_cons (dp_var 4) da_nil) ⟨n, rfl, rfl⟩
  have enz : r.filter (fun n => !decide (n = 0)) = nz r := by unfold nz; congr 1; funext n; simp
  rw [enz]
  have hln : (nz r).length ≤ 12 := Nat.le_trans (List.length_filter_le _ _) hl
  refine if1 (dt_eqDec (nz r = []) 2 2 hr.units (dp_var 1) (dp_lst da_nil) (by simp [pl]; exact plAll_map fun n _ => by simp [encC, pl, plAll]) rfl (by simp)) (fun h => ?_) (fun h => ?_)
  · refine ret1 (dp_tup (da_cons (dp_tup da_nil) (da_cons dp_int (da_cons dp_int da_nil)))) ?_
    unfold formD; rw [if_pos (of_decide_eq_true h)]
  · have h0 : nz r ≠ [] := of_decide_eq_false h
    obtain ⟨m1, m2⟩ := minL_mem (l := (nz r).map fun n => (coreP n).2.1) (by simpa using h0)
    refine set1 2 (d := .int (formS r)) (dp_minL (ns := (nz r).map fun n => (coreP n).2.1) B (lcp [("one", 5)] (nz r) encC (fun n => .int (coreP n).2.1) (fun n => [(5, encC n)]) (di_list (dp_var 1)) (fun n _ s H C cl fp => dgn 5) (fun n _ s H C cl fp => ?_) (by rw [List.map_map]; rfl) (by omega)) (by rw [List.length_map]; exact List.length_pos_iff.mpr h0) fun k hk hle => Int.le_antisymm (hle _ m1) (m2 k hk)) ?_
    · exact dp_ixT (dp_var 5) dp_int rfl
    obtain ⟨n0, l0, hn0⟩ := List.exists_cons_of_ne_nil h0
    have hG : formG r = (coreP n0).2.2 := by unfold formG; rw [hn0]
    refine set1 3 (d := .int (formG r)) (dp_ixT (dp_ixL (dp_var 1) dp_int (d := encC n0) (by rw [hn0]; exact atI_nat (i := 0) rfl)) dp_int (by rw [hG]; rfl)) ?_
    refine ret1 (dp_tup (da_cons (dp_tupS B (lcp [("number", 4)] r .int (fun n => .int ((formG r * n) / 2 ^ (formS r).toNat)) (fun n => [(4, .int n)]) (di_tup (dp_var 0)) (fun n _ s H C cl fp => dgn 4) (fun n hn s H C cl fp => ?_) rfl (by omega))) (da_cons (dp_var 2) (da_cons (dp_var 3) da_nil)))) ?_
    · refine dp_shr (dp_mul (dp_var 3) (dp_var 4) ?_) (dp_var 2) (formS_nonneg h0)
      exact mulx_ok (a := 2) (b := 1000001) (by rcases formG_pm h0 with q | q <;> rw [q] <;> decide) (pow_lt (hb n hn)) (by decide)
    · unfold formD formN; rw [if_neg h0, List.map_map]; rfl
end
end SS
set_option maxHeartbeats 4000000
set_option exponentiation.threshold 100
/-! The walks, seven: bare. -/
namespace SS
open PySem PySem.Spec PyProof.Rows L2
/-! signs stay small -/
def Sg (p : Out) : Prop := p.sign.natAbs ≤ 1
theorem sg_no : Sg noOut := by unfold Sg noOut; decide
theorem sg_lift {p : Out} {s : Int} (h : Sg p) : Sg (liftP p s) := by unfold liftP; split; exact sg_no; exact h
theorem sg_sign {p : Out} {s : Int} (h : Sg p) : Sg (signP p s) := by
  unfold signP
  split
  · exact sg_no
  · split
    · exact h
    · unfold Sg at *; rw [Int.natAbs_neg]; exact h
theorem sg_sum {n : Nat} {ds : List Deed} {p q : Out} (hp : Sg p) (hq : Sg q) : Sg (sumP n ds p q).2 := by
  unfold sumP
  split
  · exact hq
  · split
    · exact hp
    · split
      · exact hp
      · split <;> (show (1 : Int).natAbs ≤ 1; decide)
theorem mul_sg {a b : Int} (ha : a.natAbs ≤ 1) (hb : b.natAbs ≤ 1) : (a * b).natAbs ≤ 1 := by rw [Int.natAbs_mul]; exact Nat.mul_le_mul ha hb
theorem getD_sg {l : List Out} (h : ∀ p ∈ l, Sg p) (i : Nat) : Sg (l.getD i noOut) := by
  by_cases hi : i < l.length
  · exact h _ (getD_mem hi)
  · rw [List.getD_eq_getElem?_getD, List.getElem?_eq_none (by omega)]; exact sg_no
theorem lkR_mem {k : Kn} {r : Row} {v : Nat × Int × Int} (h : lkR k r = some v) : (r, v) ∈ k := by
  unfold lkR at h
  cases e : k.find? fun kv => decide (kv.1 = r) with
  | none => rw [e] at h; cases h
  | some p =>
    rw [e] at h
    have h1 := List.find?_some e
    have h2 := List.mem_of_find?_eq_some e
    have h3 : p.1 = r := by simpa using h1
    have h4 : p.2 = v := by simpa using h
    rw [← h3, ← h4]; exact h2
structure Binv (b : Bst) (i : Nat) : Prop where
  dl : b.ds.length ≤ i
  pl : b.parts.length = i
  kl : b.known.length ≤ i
  ps : ∀ p ∈ b.parts, Sg p
  ks : ∀ kv ∈ b.known, kv.2.2.2.natAbs ≤ 1
theorem formG_le {r : Row} (h : nz r ≠ []) : (formG r).natAbs ≤ 1 := by rcases formG_pm h with q | q <;> rw [q] <;> decide
/-- the new part of the last branch -/
def bareP (x : Web) (b : Bst) (k : Nat) : List Deed × Out := if k < x.ins then (b.ds, ⟨k, 0, 1⟩) else match x.deeds[k - x.ins]? with
  | some d => sumP x.ins b.ds (liftP (b.parts.getD d.a noOut) d.s) (signP (liftP (b.parts.getD d.b noOut) d.t) (sgn d.less))
  | none => (b.ds, ⟨k, 0, 1⟩)
theorem bareS_eq (x : Web) (b : Bst) (k : Nat) (r : Row) : bareS x b k r = if nz r = [] then { b with parts := b.parts ++ [noOut] } else match lkR b.known (formN r) with
    | some v => { b with parts := b.parts ++ [⟨v.1, formS r - v.2.1, formG r * v.2.2⟩] }
    | none => ⟨(bareP x b k).1, b.parts ++ [(bareP x b k).2], b.known ++ [(formN r, ((bareP x b k).2.thing, formS r, formG r * (bareP x b k).2.sign))]⟩ := rfl
theorem bareP_sg {x : Web} {b : Bst} {k i : Nat} (h : Binv b i) : Sg (bareP x b k).2 ∧ (bareP x b k).1.length ≤ i + 1 := by
  unfold bareP
  have hd := h.dl
  split
  · exact ⟨by show (1 : Int).natAbs ≤ 1; decide, by show b.ds.length ≤ _; omega⟩
  · split
    · refine ⟨sg_sum (sg_lift (getD_sg h.ps _)) (sg_sign (sg_lift (getD_sg h.ps _))), ?_⟩
      exact Nat.le_trans sumP_len (by omega)
    · exact ⟨by show (1 : Int).natAbs ≤ 1; decide, by show b.ds.length ≤ _; omega⟩
theorem bare_inv {x : Web} : ∀ i, Binv (x.bareL i) i
  | 0 => ⟨by simp [Web.bareL], by simp [Web.bareL], by simp [Web.bareL], by simp [Web.bareL], by simp [Web.bareL]⟩
  | i + 1 => by
    have h := bare_inv (x := x) i
    rw [Web.bareL_succ, bareS_eq]
    have hd := h.dl
    have hk := h.kl
    have hp := h.pl
    split
    · refine ⟨by show (x.bareL i).ds.length ≤ _; omega, by simp; exact hp, by show (x.bareL i).known.length ≤ _; omega, fun p hp => ?_, h.ks⟩
      rcases List.mem_append.mp hp with q | q
      · exact h.ps p q
      · rw [List.mem_singleton.mp q]; exact sg_no
    · rename_i hnz
      split
      · rename_i v hv
        refine ⟨by show (x.bareL i).ds.length ≤ _; omega, by simp; exact hp, by show (x.bareL i).known.length ≤ _; omega, fun p hp => ?_, h.ks⟩
        rcases List.mem_append.mp hp with q | q
        · exact h.ps p q
        · rw [List.mem_singleton.mp q]
          exact mul_sg (formG_le hnz) (h.ks _ (lkR_mem hv))
      · obtain ⟨s1, s2⟩ := bareP_sg (x := x) (k := i) h
        refine ⟨s2, by simp; exact hp, by simp; omega, fun p hp => ?_, fun kv hkv => ?_⟩
        · rcases List.mem_append.mp hp with q | q
          · exact h.ps p q
          · rw [List.mem_singleton.mp q]; exact s1
        · rcases List.mem_append.mp hkv with q | q
          · exact h.ks kv q
          · rw [List.mem_singleton.mp q]; exact mul_sg (formG_le hnz) s1
/-! the dict of names -/
def keyR (r : Row) : List Key := r.map Sum.inl
theorem keyR_inj {a b : Row} (h : keyR a = keyR b) : a = b := by
  unfold keyR at h
  exact (List.map_inj_right (fun x y e => by injection e)).mp h
theorem keyR_D (r : Row) : (keyR r).map keyD = r.map PyData.int := by unfold keyR; rw [List.map_map]; rfl
def encV (v : Nat × Int × Int) : PyData := .tuple [.int v.1, .int v.2.1, .int v.2.2]
def encK (k : Kn) : List (List Key × SV) := k.map fun p => (keyR p.1, .dat (encV p.2))
theorem lkG_K (r : Row) : ∀ k : Kn, lkG (encK k) (keyR r) = (lkR k r).map fun v => .dat (encV v)
  | [] => rfl
  | p :: k => by
    have ih := lkG_K r k
    unfold lkG encK lkR at *
    rw [List.map_cons, List.find?_cons, List.find?_cons]
    by_cases h : p.1 = r
    · rw [decide_eq_true h, decide_eq_true (by rw [h] : keyR p.1 = keyR r)]; rfl
    · have h2 : ¬ keyR p.1 = keyR r := fun e => h (keyR_inj e)
      rw [decide_eq_false h, decide_eq_false h2]
      exact ih
theorem ptG_K {r : Row} {v : Nat × Int × Int} : ∀ {k : Kn}, lkR k r = none → ptG (encK k) (keyR r) (.dat (encV v)) = encK (k ++ [(r, v)]) := by
  intro k h
  have hn : ∀ p ∈ k, ¬ p.1 = r := fun p hp e => by
    unfold lkR at h
    have : (k.find? fun kv => decide (kv.1 = r)).isSome := List.find?_isSome.mpr ⟨p, hp, by simpa using e⟩
    cases q : k.find? fun kv => decide (kv.1 = r) with
    | none => rw [q] at this; cases this
    | some z => rw [q] at h; cases h
  unfold ptG
  rw [if_neg]
  · unfold encK; simp
  · intro ha
    obtain ⟨q, hq, e⟩ := List.any_eq_true.mp ha
    unfold encK at hq
    obtain ⟨p, hp, rfl⟩ := List.mem_map.mp hq
    exact hn p hp (keyR_inj (of_decide_eq_true e))

def R_bare0 (x : Web) : Web := x.bare0
def bs (C : Addr) (n : Nat) (b : Bst) : Rs := [.ins C [("ins", .dat (.int n)), ("deeds", .ptr 1)], dl b.ds, .lst ((b.parts.map encO).map .dat), .dT (encK b.known)]
theorem po_snoc {ps : List Out} {p : Out} : Ow.lst ((ps.map encO).map SV.dat ++ [.dat (encO p)]) = .lst (((ps ++ [p]).map encO).map .dat) := by simp
/-- what bare promises -/
def R_bare (ds : List PyData) (d : PyData) : Prop := ∃ x : Web, x.ok ∧ x.pruned.ok ∧ x.pruned.bare0.ok ∧ ds = [encW x] ∧ d = encW x.bare
theorem idx_sgn (b : Bool) : atI [PyData.int 1, PyData.int (-1)] (if decide (wordOf b = Str.ofString "less") then 1 else 0) = some (.int (sgn b)) := by
  cases b
  · rw [show decide (wordOf false = Str.ofString "less") = false by decide +kernel]; rfl
  · rw [show decide (wordOf true = Str.ofString "less") = true by decide +kernel]; rfl
section
variable {P : Program} {w : World} {K : PySem.W.Frag} {mg : Str → Option Value} {base : Heap} {C : Addr}
theorem sc_92 : FnScope ["web", "made_by", "parts", "known", "k", "row", "name", "shift", "sign", "thing", "before", "by", "part", "word", "a", "s", "b", "t", "second"] ["web"] (defScope (top 92)) := ⟨rfl, rfl, rfl, by decide +kernel, rfl, by decide +kernel, by decide +kernel⟩
theorem cal_bare (B : Bi mg) (cl : Cls K C) (N : NF K mg) (kc : KCal P w K mg base C "Builder" 1 ["self", "ins"] (spS K (S_binit C))) (m3 : MCal P w K mg base C "summed" 3 ["self", "one", "other"] (spS K (S_summed C))) (m4 : MCal P w K mg base C "web" 1 ["self", "outs"] (spS K (S_bweb C)))
    (c1 : Cal P w K mg base "pruned" 2 ["web"] (spP K R_pruned)) (c2 : Cal P w K mg base "numbers" 5 ["web"] (spP K R_numbers)) (c3 : Cal P w K mg base "form" 2 ["row"] (spP K R_form)) (c4 : Cal P w K mg base "lifted" 1 ["part", "shift"] (spP K R_lifted)) (c5 : Cal P w K mg base "signed" 2 ["part", "sign"] (spP K R_signed)) (D : Df K mg "bare" "bare" (top 92) ["web"]) : Cal P w K mg base "bare" 6 ["web"] (spP K R_bare) := by
  refine cal_P (N := ["web", "made_by", "parts", "known", "k", "row", "name", "shift", "sign", "thing", "before", "by", "part", "word", "a", "s", "b", "t", "second"]) D sc_92 (by rintro ds d ⟨x, _, _, _, rfl, _⟩; rfl) (by decide) (fun f cdv A outer sh H E hr ds d h => ?_)
  obtain ⟨x0, hok0, hok, hokb, rfl, rfl⟩ := h
  show DS _ _ [.dat (encW x0), .un, .un, .un, .un, .un, .un, .un, .un, .un, .un, .un, .un, .un, .un, .un, .un, .un, .un] [] _ _
  refine set1 0 (dp_call c1 (hr.mono (by decide)) rfl (da_cons (dp_var 0) da_nil) ⟨x0, hok0, rfl, rfl⟩) ?_
  unfold Web.bare
  generalize x0.pruned = x at *
  have hi1 := hok.i1
  have hi2 := hok.i2
  have hdl := hok.dl
  have hol := hok.ol
  have hu := hr.units
  refine setE 1 (de_make kc (hr.mono (by decide)) rfl (dae_pure (da_cons (dp_ixT (dp_var 0) dp_int (d := .int x.ins) rfl) da_nil) ⟨0, x.ins, by simp, rfl, rfl, rfl, ?_⟩))
  refine setE 2 (de_nil ?_)
  refine setE 3 (de_dnewT ?_)
  show DS _ _ _ (bs C x.ins (x.bareL 0)) _ _
  have hrw : x.rows.length = x.ins + x.deeds.length := rows_len
  refine ds_for (die_pure (di_enum rfl B.enumerate (dp_call c2 hr (by rfl) (da_cons (dp_var 0) da_nil) ⟨x, hok, rfl, rfl⟩)) ⟨fun i ρ' O' => ∃ a b c d e f g h i' j k l m n o, ρ' = [.dat (encW x), .ptr 0, .ptr 2, .ptr 3, a, b, c, d, e, f, g, h, i', j, k, l, m, n, o] ∧ O' = bs C x.ins (x.bareL i), ⟨_, _, _, _, _, _, _, _, _, _, _, _, _, _, _, rfl, rfl⟩, ?_, ?_⟩)
  · rintro i y ρ' O' hx ⟨a, b, c, d, e, f, g, h, i', j, k, l, m, n, o, rfl, rfl⟩
    obtain ⟨p, hp, rfl⟩ := get_map hx
    rw [List.getElem?_zipIdx] at hp
    cases hq : (x.rows.map encT)[i]? with
    | none => rw [hq] at hp; cases hp
    | some q =>
      rw [hq] at hp
      obtain ⟨r, hrr, rfl⟩ := get_map hq
      cases hp
      have hil := get_lt hrr
      have hm := List.mem_of_getElem? hrr
      obtain ⟨z1, z2⟩ := out_sz hok r (List.mem_append_left _ hm)
      have hwr := rows_width hok.ds r hm
      have hgd : x.rows.getD i [] = r := by rw [List.getD_eq_getElem?_getD, hrr]; rfl
      have tk := x.bareL_succ (k := i)
      rw [hgd, bareS_eq] at tk
      have inv := bare_inv (x := x) i
      generalize x.bareL i = S at *
      refine ⟨_, dg_tup rfl (dgs_cons (dgn 4) (dgs_cons (dgn 5) dgs_nil)), nrm ?_⟩
      have hpl := inv.pl
      have hdl2 := inv.dl
      have hkl := inv.kl
      by_cases hz : nz r = []
      · have hf : formD r = .tuple [.tuple [], .int 0, .int 0] := by unfold formD; rw [if_pos hz]
        refine tup1 (d := .tuple [.tuple [], .int 0, .int 0]) (dp_call c3 (hr.mono (by decide)) rfl (da_cons (dp_var 5) da_nil) ⟨r, rfl, z1, z2, hf.symm⟩) (dg_tup rfl (dgs_cons (dgn 6) (dgs_cons (dgn 7) (dgs_cons (dgn 8) dgs_nil)))) ?_
        rw [if_pos hz] at tk
        refine ds_if (mid := fun ρ' O' => (∃ a b c d e f g h i' j k l m n o, ρ' = [.dat (encW x), .ptr 0, .ptr 2, .ptr 3, a, b, c, d, e, f, g, h, i', j, k, l, m, n, o]) ∧ O' = bs C x.ins { S with parts := S.parts ++ [noOut] }) (dte_pure (dt_eqT 1 hr.units (dp_var 6) (dp_tup da_nil) rfl) ⟨fun _ => ?_, fun h => by cases h⟩) ?_
        · refine ds_expr (de_append (de_var 2 rfl ⟨2, _, rfl, rfl, de_pure (dp_nought N) ⟨_, rfl, ?_, ds_nil ⟨⟨_, _, _, _, _, _, _, _, _, _, _, _, _, _, _, rfl⟩, ?_⟩⟩⟩))
          · rw [List.length_map, List.length_map]; omega
          · rw [po_snoc]; rfl
        · rintro ρ' O' ⟨⟨a, b, c, d, e, f, g, h, i', j, k, l, m, n, o, rfl⟩, rfl⟩
          exact ds_nil ⟨_, _, _, _, _, _, _, _, _, _, _, _, _, _, _, rfl, by rw [tk]⟩
      · have hf : formD r = .tuple [.dict [(.tuple ((keyR (formN r)).map keyD), .none)], .int (formS r), .int (formG r)] := by unfold formD; rw [if_neg hz, keyR_D]
        refine tup1 (d := .tuple [.dict [(.tuple ((keyR (formN r)).map keyD), .none)], .int (formS r), .int (formG r)]) (dp_call c3 (hr.mono (by decide)) rfl (da_cons (dp_var 5) da_nil) ⟨r, rfl, z1, z2, hf.symm⟩) (dg_tup rfl (dgs_cons (dgn 6) (dgs_cons (dgn 7) (dgs_cons (dgn 8) dgs_nil)))) ?_
        rw [if_neg hz] at tk
        have hne : ¬ (.tuple ((keyR (formN r)).map keyD) : PyData) = .tuple [] := fun e => by
          rw [keyR_D] at e
          have : (formN r).length = 0 := by
            injection e with e; have := congrArg List.length e; simpa using this
          unfold formN at this
          rw [List.length_map, hwr] at this; omega
        have hpk : pl (.tuple ((keyR (formN r)).map keyD)) 1 = true := by rw [keyR_D]; exact pl_encT
        refine ds_if (mid := fun ρ' O' => (∃ a b c d e f g h i' j k l m n o, ρ' = [.dat (encW x), .ptr 0, .ptr 2, .ptr 3, a, b, c, d, e, f, g, h, i', j, k, l, m, n, o]) ∧ O' = bs C x.ins (x.bareL (i + 1))) (dte_pure (dt_eqDec False 1 1 hr.units (dp_weak (dp_var 6)) (dp_tup da_nil) hpk rfl (iff_false_intro hne)) ⟨(fun h => by cases h), fun _ => ?_⟩) ?_
        · refine ds_if (mid := fun ρ' O' => (∃ a b c d e f g h i' j k l m n o, ρ' = [.dat (encW x), .ptr 0, .ptr 2, .ptr 3, a, b, c, d, e, f, g, h, i', j, k, l, m, n, o]) ∧ O' = bs C x.ins (x.bareL (i + 1))) (dte_dinT (kx := keyR (formN r)) (by omega) (dp_var 6) (de_var 3 rfl ⟨3, encK S.known, rfl, rfl, fun h => ?_, fun h => ?_⟩)) ?_
          · rw [lkG_K] at h
            cases hv : lkR S.known (formN r) with
            | none => rw [hv] at h; cases h
            | some v =>
              rw [hv] at tk
              have hks : v.2.2.natAbs ≤ 1 := inv.ks _ (lkR_mem hv)
              refine tupE (de_dgetT (by omega) (de_var 3 rfl ⟨3, encK S.known, keyR (formN r), .dat (encV v), rfl, rfl, dp_var 6, by rw [lkG_K, hv]; rfl, encV v, _, rfl, dg_tup rfl (dgs_cons (dgn 9) (dgs_cons (dgn 10) (dgs_cons (dgn 11) dgs_nil))), nrm ?_⟩))
              refine ds_expr (de_append (de_var 2 rfl ⟨2, _, rfl, rfl, de_pure (dp_tup (da_cons (dp_var 9) (da_cons (dp_sub (dp_var 7) (dp_var 10)) (da_cons (dp_mul (dp_var 8) (dp_var 11) ?_) da_nil)))) ⟨_, rfl, ?_, ds_nil ⟨⟨_, _, _, _, _, _, _, _, _, _, _, _, _, _, _, rfl⟩, ?_⟩⟩⟩))
              · exact mulx_ok (a := 1) (b := 1) (by have := formG_le hz; omega) (by omega) (by decide)
              · rw [List.length_map, List.length_map]; omega
              · rw [tk]
                show [_, _, Ow.lst ((S.parts.map encO).map SV.dat ++ [.dat (encO ⟨v.1, formS r - v.2.1, formG r * v.2.2⟩)]), _] = _
                rw [po_snoc]; rfl
          · rw [lkG_K] at h
            cases hv : lkR S.known (formN r) with
            | some v => rw [hv] at h; cases h
            | none =>
              rw [hv] at tk
              obtain ⟨sgp, lnp⟩ := bareP_sg (x := x) (k := i) inv
              refine set1 12 (d := encO ⟨i, 0, 1⟩) ((dp_tup (da_cons (dp_var 4) (da_cons dp_int (da_cons dp_int da_nil)))).is (by unfold encO; simp)) ?_
              have ei : ((0 + i : Nat) : Int) = (i : Nat) := by omega
              have hlist : ∀ (ds : List Deed), (bs C x.ins S).set 1 (dl ds) = bs C x.ins { S with ds := ds } := fun _ => rfl
              refine ds_if (mid := fun ρ' O' => (∃ a b l m n o g q r1 r2 r3, ρ' = [.dat (encW x), .ptr 0, .ptr 2, .ptr 3, a, b, .dat (.dict [(.tuple ((keyR (formN r)).map keyD), .none)]), .dat (.int (formS r)), .dat (.int (formG r)), l, m, n, .dat (encO (bareP x S i).2), o, g, q, r1, r2, r3]) ∧ O' = bs C x.ins { S with ds := (bareP x S i).1 }) (dte_pure (dt_ge (dp_var 4) (dp_ixT (dp_var 0) dp_int (d := .int x.ins) rfl)) ⟨fun h => ?_, fun h => ?_⟩) ?_
              · have hge : x.ins ≤ i := by have := of_decide_eq_true h; omega
                have hkk : i - x.ins < x.deeds.length := by omega
                have he := List.getElem?_eq_getElem hkk
                generalize hed : x.deeds[i - x.ins] = ed at he
                obtain ⟨ha, hb⟩ := deed_facts hok he
                have eat : atI (x.deeds.map encD) (((0 + i : Nat) : Int) - x.ins) = some (encD ed) := by
                  rw [show ((0 + i : Nat) : Int) - x.ins = ((i - x.ins : Nat) : Int) by omega]
                  exact atI_nat (by rw [List.getElem?_map, he]; rfl)
                refine tup1 (dp_ixL (dp_ixT (dp_var 0) dp_int (d := .list (x.deeds.map encD)) rfl) (dp_sub (dp_var 4) (dp_ixT (dp_var 0) dp_int (d := .int x.ins) rfl)) eat) (dg_tup rfl (dgs_cons (dgn 13) (dgs_cons (dgn 14) (dgs_cons (dgn 15) (dgs_cons (dgn 16) (dgs_cons (dgn 17) dgs_nil)))))) ?_
                have pat : ∀ q : Nat, q < S.parts.length → atI (S.parts.map encO) (q : Int) = some (encO (S.parts.getD q noOut)) := fun q hq => atI_nat (by rw [List.getElem?_map, getD_at (z := noOut) hq]; rfl)
                refine setE 18 (de_borrow [none, none, some (.list (S.parts.map encO)), none, none, none, none, none, none, none, none, none, none, some (.str (wordOf ed.less)), none, none, some (.int ed.b), some (.int ed.t), none] (.no (.no (.yes (.ptr rfl vds_map) (.no (.no (.no (.no (.no (.no (.no (.no (.no (.no (.yes (.dat _) (.no (.no (.yes (.dat _) (.yes (.dat _) (.no .nil))))))))))))))))))) (dp_call c5 (hr.mono (by decide)) rfl (da_cons (dp_call c4 (hr.mono (by decide)) (by rfl) (da_cons (dp_ixL (dp_var 2) (dp_var 16) (pat _ (by omega))) (da_cons (dp_var 17) da_nil)) ⟨_, _, rfl, rfl⟩) (da_cons (dp_ixL (dp_lst (da_cons dp_int (da_cons (dp_neg dp_int) da_nil))) (dp_intB B (dp_eqS (dp_var 13) dp_str)) (idx_sgn ed.less)) da_nil)) ⟨_, _, rfl, rfl⟩) rfl ?_)
                refine setE 12 (de_meth m3 (hr.mono (by decide)) (de_var 1 rfl ⟨0, _, rfl, rfl, rfl, dae_cons (de_borrow [none, none, some (.list (S.parts.map encO)), none, none, none, none, none, none, none, none, none, none, none, some (.int ed.a), some (.int ed.s), none, none, none] (.no (.no (.yes (.ptr rfl vds_map) (.no (.no (.no (.no (.no (.no (.no (.no (.no (.no (.no (.yes (.dat _) (.yes (.dat _) (.no (.no (.no .nil))))))))))))))))))) (dp_call c4 (hr.mono (by decide)) (by rfl) (da_cons (dp_ixL (dp_var 2) (dp_var 14) (pat _ (by omega))) (da_cons (dp_var 15) da_nil)) ⟨_, _, rfl, rfl⟩) rfl (dae_cons (de_var 18 rfl (dae_nil ⟨0, 1, x.ins, S.ds, _, _, rfl, ⟨rfl, rfl⟩, by omega, ?_⟩))))⟩))
                have hbp : bareP x S i = sumP x.ins S.ds (liftP (S.parts.getD ed.a noOut) ed.s) (signP (liftP (S.parts.getD ed.b noOut) ed.t) (sgn ed.less)) := by
                  unfold bareP; rw [if_neg (by omega), he]
                rw [hbp]
                exact ds_nil ⟨⟨_, _, _, _, _, _, _, _, _, _, _, rfl⟩, rfl⟩
              · have hlt : i < x.ins := by have := of_decide_eq_false h; omega
                have hbp : bareP x S i = (S.ds, ⟨i, 0, 1⟩) := by unfold bareP; rw [if_pos hlt]
                rw [hbp]
                exact ds_nil ⟨⟨_, _, _, _, _, _, _, _, _, _, _, rfl⟩, rfl⟩
              · rintro ρ' O' ⟨⟨a, b, l, m, n, o, g, q, r1, r2, r3, rfl⟩, rfl⟩
                generalize bareP x S i = dp at *
                refine ds_expr (de_append (de_var 2 rfl ⟨2, _, rfl, rfl, de_var 12 rfl ⟨_, rfl, ?_, ?_⟩⟩))
                · simp only [List.length_map]; omega
                rw [po_snoc]
                have ms : CMulX (formG r) dp.2.sign := mulx_ok (a := 1) (b := 1) (by have := formG_le hz; omega) (by have : dp.2.sign.natAbs ≤ 1 := sgp; omega) (by decide)
                refine ds_dputT (by omega) (de_pure (dp_tup (da_cons (dp_ixT (dp_var 12) dp_int (d := .int dp.2.thing) rfl) (da_cons (dp_var 7) (da_cons (dp_mul (dp_var 8) (dp_ixT (dp_var 12) dp_int (d := .int dp.2.sign) rfl) ms) da_nil)))) (de_var 3 rfl ⟨3, encK S.known, keyR (formN r), rfl, rfl, dp_var 6, ?_, ds_nil ⟨⟨_, _, _, _, _, _, _, _, _, _, _, _, _, _, _, rfl⟩, ?_⟩⟩))
                · unfold encK; rw [List.length_map]; omega
                · rw [tk]
                  show [_, _, _, Ow.dT (ptG (encK S.known) (keyR (formN r)) (.dat (encV (dp.2.thing, formS r, formG r * dp.2.sign))))] = _
                  rw [ptG_K hv]; rfl
          · rintro ρ' O' ⟨⟨a, b, c, d, e, f, g, h, i', j, k, l, m, n, o, rfl⟩, rfl⟩
            exact ds_nil ⟨⟨_, _, _, _, _, _, _, _, _, _, _, _, _, _, _, rfl⟩, rfl⟩
        · rintro ρ' O' ⟨⟨a, b, c, d, e, f, g, h, i', j, k, l, m, n, o, rfl⟩, rfl⟩
          exact ds_nil ⟨_, _, _, _, _, _, _, _, _, _, _, _, _, _, _, rfl, rfl⟩
  · rintro ρ' O' ⟨a, b, c, d, e, f, g, h, i', j, k, l, m, n, o, rfl, rfl⟩
    have hl : ((x.rows.map encT).zipIdx.map fun p => PyData.tuple [.int (p.2 : Nat), p.1]).length = x.ins + x.deeds.length := by simp; exact hrw
    rw [hl]
    have inv := bare_inv (x := x) (x.ins + x.deeds.length)
    have hpl := inv.pl
    unfold Web.bare0 at hokb
    unfold Web.bare0
    generalize x.bareL (x.ins + x.deeds.length) = S at *
    have pat : ∀ q : Nat, q < S.parts.length → atI (S.parts.map encO) (q : Int) = some (encO (S.parts.getD q noOut)) := fun q hq => atI_nat (by rw [List.getElem?_map, getD_at (z := noOut) hq]; rfl)
    refine ds_freeze 2 2 rfl rfl (nrm ?_)
    refine ds_ret (de_callP c1 (hr.mono (by decide)) (by rfl) (dae_cons (de_meth m4 (hr.mono (by decide)) (de_var 1 rfl ⟨0, _, rfl, rfl, rfl, dae_pure (ds := [.list ((x.outs.map fun o => signP (liftP (S.parts.getD o.thing noOut) o.shift) o.sign).map encO)]) (da_cons (lcp [("thing", 9), ("shift", 7), ("sign", 8)] x.outs encO (fun o => encO (signP (liftP (S.parts.getD o.thing noOut) o.shift) o.sign)) (fun o => [(9, .int o.thing), (7, .int o.shift), (8, .int o.sign)]) (di_list (dp_ixT (dp_var 0) dp_int rfl)) (fun o _ s H C cl fp => dg_tup rfl (dgs_cons (dgn 9) (dgs_cons (dgn 7) (dgs_cons (dgn 8) dgs_nil)))) (fun o ho s H C cl fp => ?_) (by rw [List.map_map]; rfl) (by omega)) da_nil) ⟨0, 1, x.ins, S.ds, _, rfl, ⟨rfl, rfl⟩, dae_nil ⟨[_], _, rfl, ⟨_, hokb, rfl, rfl⟩, rfl⟩⟩⟩))))
    obtain ⟨h1, _, _⟩ := out_facts hok ho
    exact dp_call c5 (hr.mono (by decide)) rfl (da_cons (dp_call c4 (hr.mono (by decide)) (by rfl) (da_cons (dp_ixL (dp_var 2) (dp_var 9) (pat _ (by omega))) (da_cons (dp_var 7) da_nil)) ⟨_, _, rfl, rfl⟩) (da_cons (dp_var 8) da_nil)) ⟨_, _, rfl, rfl⟩
end
end SS
set_option maxHeartbeats 4000000
set_option exponentiation.threshold 100
/-! The walks, eight: turned.py. -/
namespace SS
open PySem PySem.Spec PyProof.Rows L2
def Web.up (x : Web) : Prop := (∀ d ∈ x.deeds, 0 ≤ d.s ∧ 0 ≤ d.t) ∧ ∀ o ∈ x.outs, 0 ≤ o.shift
def R_downs (ds : List PyData) (d : PyData) : Prop := ∃ x : Web, x.ok ∧ x.up ∧ ds = [encW x] ∧ d = .list []
def R_turned (ds : List PyData) (d : PyData) : Prop := ∃ x : Web, x.ok ∧ x.up ∧ x.outs ≠ [] ∧ ds = [encW x] ∧ d = encW x.turned
/-- a + b, two lists, a new one -/
theorem df_cat {X : Cx} {δ : Dl} {a b : Expr} {pos : Pos} {xs ys : List PyData} (ha : DP X a δ (.list xs)) (hb : DP X b δ (.list ys)) (h : xs.length + ys.length ≤ sizeLine) : DF X (.BinOp a .Add b pos) δ (xs ++ ys) := fun F σ H sm sl Q q =>
  wE_of (pe_op op_cat pe_star pe_star) (ha F σ H sm sl _ fun x F1 H1 x1 rx => hb F1 σ H1 x1.s (sl.mono x1.f) _ fun y F2 H2 x2 ry => by
    have rx2 := rx.mono x2.f
    cases rx2 with
    | @lst a1 vs1 _ h1 r1 =>
      cases ry with
      | @lst a2 vs2 _ h2 r2 =>
        have xx := x1.trans x2
        exact ⟨_, _, _, _, rfl, rfl, x2.s _ _ h1, x2.s _ _ h2, by rw [r1.len, r2.len]; exact h, fun p hp => q p _ F2 _ ⟨xx.f, xx.h.trans (same_new hp), xx.s.trans (same_new hp), xx.n⟩ (xx.s.free hp) (xx.h.free hp) upd_same (r1.append r2)⟩)
def encX (a : Arr) : PyData := .tuple [.int a.en, .int a.sh, .int a.sn]
def ol (l : List Arr) : Ow := .lst ((l.map encX).map .dat)
theorem vds_of {O : Rs} {f : Nat → SV} {g : Nat → PyData} : ∀ {l : List Nat}, (∀ t ∈ l, Vd O (f t) (g t)) → Vds O (l.map f) (l.map g)
  | [], _ => .nil
  | t :: l, h => .cons (h t List.mem_cons_self) (vds_of fun u hu => h u (List.mem_cons_of_mem _ hu))
/-- what an arrow joins -/
theorem arr_facts {x : Web} (h : x.ok) : ∀ a ∈ x.arrs, a.st < x.ins + x.deeds.length ∧ a.st < a.en ∧ a.en < x.ins + x.deeds.length + x.outs.length ∧ (-4000 ≤ a.sh ∧ a.sh ≤ 4000) ∧ (a.sn = 1 ∨ a.sn = -1) := fun a ha => by
  unfold Web.arrs at ha
  rcases List.mem_append.mp ha with q | q
  · obtain ⟨l, hl, hal⟩ := List.mem_flatten.mp q
    obtain ⟨k, hk, rfl⟩ := List.mem_map.mp hl
    have hk2 : k < x.deeds.length := by simpa using hk
    have he := List.getElem?_eq_getElem hk2
    generalize x.deeds[k] = d at he
    obtain ⟨h1, h2⟩ := deed_facts h he
    have hD := okDs_at h.ds he
    unfold Web.arrD at hal
    rw [he] at hal
    simp only [List.mem_cons, List.not_mem_nil, or_false] at hal
    rcases hal with e | e
    · rw [e]; exact ⟨by show d.a < _; omega, by show d.a < x.ins + k; omega, by show x.ins + k < _; omega, hD.2.2.1, .inl rfl⟩
    · rw [e]; refine ⟨by show d.b < _; omega, by show d.b < x.ins + k; omega, by show x.ins + k < _; omega, hD.2.2.2.1, ?_⟩
      show sgn d.less = 1 ∨ sgn d.less = -1
      cases d.less
      · exact .inl rfl
      · exact .inr rfl
  · obtain ⟨l, hl, hal⟩ := List.mem_flatten.mp q
    obtain ⟨k, hk, rfl⟩ := List.mem_map.mp hl
    have hk2 : k < x.outs.length := by simpa using hk
    have he := List.getElem?_eq_getElem hk2
    have hmem := List.getElem_mem hk2
    generalize x.outs[k] = o at he hmem
    obtain ⟨h1, h2, h3⟩ := out_facts h hmem
    unfold Web.arrO at hal
    rw [he] at hal
    by_cases hs : o.sign = 0
    · simp [hs] at hal
    · simp only [hs, if_false, List.mem_cons, List.not_mem_nil, or_false] at hal
      rw [hal]
      exact ⟨h1, by show o.thing < x.ins + x.deeds.length + k; omega, by show x.ins + x.deeds.length + k < _; omega, h2, h3.resolve_left hs⟩
theorem arrs_len {x : Web} (h : x.ok) : x.arrs.length ≤ 144 := by
  unfold Web.arrs
  rw [List.length_append]
  have := flat_len (f := x.arrD) arrD_len x.deeds.length
  have := flat_len (f := x.arrO) arrO_len x.outs.length
  have := h.dl
  have := h.ol
  omega
theorem cut_take {α : Type} {xs : List α} {n : Nat} (h : n ≤ xs.length) : cutD xs none (some (n : Int)) = xs.take n := by
  unfold cutD
  have e1 : HT.sIx xs.length 0 none = 0 := rfl
  have e2 : HT.sIx xs.length xs.length (some (n : Int)) = n := by
    rw [HT.sIx_nat]; omega
  rw [e1, e2, List.drop_zero, Nat.sub_zero]
section
variable {P : Program} {w : World} {K : PySem.W.Frag} {mg : Str → Option Value} {base : Heap} {C : Addr}
theorem sc_94 : FnScope ["web", "found", "k"] ["web"] (defScope (top 94)) := ⟨rfl, rfl, rfl, by decide +kernel, rfl, by decide +kernel, by decide +kernel⟩
theorem sc_95 : FnScope ["web", "wrong", "ins", "deeds", "outs", "made_by", "many", "lists", "thing", "start", "end", "shift", "sign", "parts", "k"] ["web"] (defScope (top 95)) := ⟨rfl, rfl, rfl, by decide +kernel, rfl, by decide +kernel, by decide +kernel⟩
theorem cal_downs (B : Bi mg) (D : Df K mg "downs" "downs" (top 94) ["web"]) : Cal P w K mg base "downs" 1 ["web"] (spP K R_downs) := by
  refine cal_P (N := ["web", "found", "k"]) D sc_94 (by rintro ds d ⟨x, _, _, rfl, _⟩; rfl) (by decide) (fun f cdv A outer sh H E hr ds d h => ?_)
  obtain ⟨x, hok, hup, rfl, rfl⟩ := h
  have hdl := hok.dl
  have hol := hok.ol
  show DS _ _ [.dat (encW x), .un, .un] [] _ _
  have ia : ∀ {X : Cx} {δ : Dl} {a : Expr} {pos : Pos}, True := trivial
  refine setLf 1 [("k", 2)] (List.range x.deeds.length) (fun i : Nat => .int i) (fun i => .int i) (fun _ => false) (fun i => [(2, .int i)]) ?_ (fun x _ s H C cl fp => dgn 2) (fun n hn s H C cl fp => ?_) (fun n _ hf s H C cl fp => by cases hf) ?_ (by rw [List.length_range]; omega)
  · rw [rng_enc]; exact di_rng1 rfl B.range (dp_len B (dp_ixT (dp_var 0) dp_int (d := .list (x.deeds.map encD)) rfl)) (by simp) (by omega) (by omega)
  · have hn2 : n < x.deeds.length := by simpa using hn
    have he := List.getElem?_eq_getElem hn2
    obtain ⟨u1, u2⟩ := hup.1 _ (List.getElem_mem hn2)
    generalize x.deeds[n] = e at *
    have eat : atI (x.deeds.map encD) (n : Int) = some (encD e) := atI_nat (by rw [List.getElem?_map, he]; rfl)
    refine (dt_lt (dp_min2 B (dp_ixT (dp_ixL (dp_ixT (dp_var 0) dp_int (d := .list (x.deeds.map encD)) rfl) (dp_var 2) eat) dp_int (d := .int e.s) rfl) (dp_ixT (dp_ixL (dp_ixT (dp_var 0) dp_int (d := .list (x.deeds.map encD)) rfl) (dp_var 2) eat) dp_int (d := .int e.t) rfl)) dp_int).is ?_
    refine decide_eq_false ?_
    split <;> omega
  have e0 : ((List.range x.deeds.length).filter fun _ => false) = [] := by simp
  rw [e0]
  refine ret1 (dp_cat (dp_var 1) (lcfp [("k", 2)] (List.range x.outs.length) (fun i : Nat => .int i) (fun i => .int i) (fun _ => false) (fun i => [(2, .int i)]) ?_ (fun x _ s H C cl fp => dgn 2) (fun n hn s H C cl fp => ?_) (fun n _ hf s H C cl fp => by cases hf) (r := []) (by simp) (by rw [List.length_range]; omega)) (by simp [sizeLine_eq])) rfl
  · rw [rng_enc]; exact di_rng1 rfl B.range (dp_len B (dp_ixT (dp_var 0) dp_int (d := .list (x.outs.map encO)) rfl)) (by simp) (by omega) (by omega)
  · have hn2 : n < x.outs.length := by simpa using hn
    have he := List.getElem?_eq_getElem hn2
    have u1 := hup.2 _ (List.getElem_mem hn2)
    generalize x.outs[n] = e at *
    have eat : atI (x.outs.map encO) (n : Int) = some (encO e) := atI_nat (by rw [List.getElem?_map, he]; rfl)
    refine (dt_lt (dp_ixT (dp_ixL (dp_ixT (dp_var 0) dp_int (d := .list (x.outs.map encO)) rfl) (dp_var 2) eat) dp_int (d := .int e.shift) rfl) dp_int).is ?_
    exact decide_eq_false (by omega)

/-- the cells of the lists behind the first three -/
theorem cell_at {a b c : Ow} {f : Nat → Ow} {n t : Nat} {l : Rs} (h : t < n) : (([a, b, c] ++ (List.range n).map f) ++ l)[3 + t]? = some (f t) := by
  rw [List.append_assoc, List.getElem?_append_right (by simp), List.getElem?_append_left (by simp; omega)]
  rw [List.getElem?_map]
  have : 3 + t - [a, b, c].length = t := by simp
  rw [this, List.getElem?_range h]; rfl
theorem cell_set {a b c : Ow} {f g : Nat → Ow} {n t : Nat} {v : Ow} (h : t < n) (hv : g t = v) (he : ∀ u, u ≠ t → g u = f u) : (([a, b, c] ++ (List.range n).map f)).set (3 + t) v = [a, b, c] ++ (List.range n).map g := by
  rw [List.set_append_right _ _ (by simp)]
  have : 3 + t - [a, b, c].length = t := by simp
  rw [this]
  congr 1
  apply List.ext_getElem?
  intro i
  by_cases hi : t = i
  · subst hi
    rw [List.getElem?_set_self (by simpa using h), List.getElem?_map, List.getElem?_range h, ← hv]; rfl
  · rw [List.getElem?_set_ne hi, List.getElem?_map, List.getElem?_map]
    by_cases hn : i < n
    · rw [List.getElem?_range hn]; show some (f i) = some (g i); rw [he i (Ne.symm hi)]
    · rw [List.getElem?_eq_none (by simpa using hn)]; rfl
theorem turn_len {x : Web} (h : x.arrs.length ≤ 144) : ∀ (ks : List Nat) (acc : List Deed × List Out), (ks.foldl (turnS x) acc).2.length = acc.2.length ∧ (ks.foldl (turnS x) acc).1.length ≤ acc.1.length + 150 * ks.length
  | [], acc => ⟨rfl, by simp⟩
  | k :: ks, acc => by
    obtain ⟨h1, h2⟩ := turn_len h ks (turnS x acc k)
    rw [List.foldl_cons]
    have l1 : (turnS x acc k).2.length = acc.2.length := by unfold turnS; simp
    have l2 : (turnS x acc k).1.length ≤ acc.1.length + 144 := by
      unfold turnS
      refine Nat.le_trans chainP_len ?_
      rw [List.length_map]
      have := List.length_filter_le (fun a : Arr => decide (a.st = k)) x.arrs
      unfold Web.listOf; omega
    rw [List.length_cons]
    exact ⟨by rw [h1, l1], by omega⟩
theorem set_two {a b c l v1 v2 : Ow} {Ls : Rs} {M : Nat} (h : Ls.length = M) : ((([a, b, c] ++ Ls) ++ [l]).set 1 v1).set (3 + M) v2 = ([a, v1, c] ++ Ls) ++ [v2] := by
  have e1 : (([a, b, c] ++ Ls) ++ [l]).set 1 v1 = ([a, v1, c] ++ Ls) ++ [l] := rfl
  rw [e1, List.set_append_right _ _ (by simp; omega)]
  have : 3 + M - ([a, v1, c] ++ Ls).length = 0 := by simp; omega
  rw [this]; rfl
theorem cal_turned (B : Bi mg) (cl : Cls K C) (kc : KCal P w K mg base C "Builder" 1 ["self", "ins"] (spS K (S_binit C))) (m3 : MCal P w K mg base C "chained" 4 ["self", "parts"] (spS K (S_chained C))) (m4 : MCal P w K mg base C "web" 1 ["self", "outs"] (spS K (S_bweb C)))
    (c1 : Cal P w K mg base "downs" 1 ["web"] (spP K R_downs)) (c2 : Cal P w K mg base "arrows" 1 ["web"] (spP K R_arrows)) (c4 : Cal P w K mg base "lifted" 1 ["part", "shift"] (spP K R_lifted)) (c5 : Cal P w K mg base "signed" 2 ["part", "sign"] (spP K R_signed)) (D : Df K mg "turned" "turned" (top 95) ["web"]) : Cal P w K mg base "turned" 5 ["web"] (spP K R_turned) := by
  refine cal_P (N := ["web", "wrong", "ins", "deeds", "outs", "made_by", "many", "lists", "thing", "start", "end", "shift", "sign", "parts", "k"]) D sc_95 (by rintro ds d ⟨x, _, _, _, rfl, _⟩; rfl) (by decide) (fun f cdv A outer sh H E hr ds d h => ?_)
  obtain ⟨x, hok, hup, hne, rfl, rfl⟩ := h
  have hi1 := hok.i1
  have hi2 := hok.i2
  have hdl := hok.dl
  have hol := hok.ol
  have hu := hr.units
  have harr := arr_facts hok
  have hal := arrs_len hok
  show DS _ _ [.dat (.tuple [.int x.ins, .list (x.deeds.map encD), .list (x.outs.map encO)]), .un, .un, .un, .un, .un, .un, .un, .un, .un, .un, .un, .un, .un, .un] [] _ _
  refine set1 1 (dp_call c1 (hr.mono (by decide)) rfl (da_cons (dp_var 0) da_nil) ⟨x, hok, hup, rfl, rfl⟩) ?_
  refine if1 (dt_neT 1 hr.units (dp_var 1) (dp_lst da_nil) rfl) (fun h => by cases h) (fun _ => ?_)
  refine if1 (dt_eqDec (x.outs = []) 3 1 hr.units (dp_ixT (dp_var 0) dp_int (d := .list (x.outs.map encO)) rfl) (dp_lst da_nil) (by simp [pl]; exact plAll_map fun n _ => pl_encO) rfl (by simp)) (fun h => absurd (of_decide_eq_true h) hne) (fun _ => ?_)
  refine tup1 (dp_var 0) (dg_tup rfl (dgs_cons (dgn 2) (dgs_cons (dgn 3) (dgs_cons (dgn 4) dgs_nil)))) ?_
  refine setE 5 (de_make kc (hr.mono (by decide)) rfl (dae_pure (da_cons ((dp_len B (dp_var 4)).is (d' := .int (x.outs.length : Nat)) (by rw [List.length_map])) da_nil) ⟨0, x.outs.length, by simp, rfl, rfl, rfl, ?_⟩))
  refine set1 6 (d := .int (x.ins + x.deeds.length : Nat)) ((dp_add (dp_var 2) (dp_len B (dp_var 3))).is (by rw [List.length_map]; congr 1)) ?_
  generalize hM : x.ins + x.deeds.length = M at *
  show DS _ _ _ [Ow.ins C [("ins", .dat (.int x.outs.length)), ("deeds", .ptr 1)], dl []] _ _
  refine setLE 7 [("thing", 8)] (die_pure (di_rng1 (m := M) rfl B.range (dp_var 6) (by simp) (by omega) (by omega)) ⟨by unfold rngD; simp; omega, fun i O' => O' = [Ow.ins C [("ins", .dat (.int x.outs.length)), ("deeds", .ptr 1)], dl [], .lst ((List.range i).map fun t => .ptr (3 + t))] ++ List.replicate i (.lst []), by simp, ?_, ?_⟩)
  · rintro i y O' hx rfl
    refine ⟨[(8, y)], by simp, fun s' H' C' cl' fp' => dgn 8, fun s' H' C' cl' fp' => de_nil ⟨_, rfl, ?_, ?_⟩⟩
    · have := get_lt hx; unfold rngD at this; simp at this ⊢; omega
    · have e3 : ([Ow.ins C [("ins", .dat (.int x.outs.length)), ("deeds", .ptr 1)], dl [], Ow.lst ((List.range i).map fun t => SV.ptr (3 + t))] ++ List.replicate i (Ow.lst [])).length = 3 + i := by simp; omega
      rw [e3]
      show List.set _ 2 _ = [_, _, Ow.lst ((List.range (i + 1)).map _)] ++ List.replicate (i + 1) _
      rw [List.replicate_succ', List.range_succ]
      simp
  · rintro O' rfl
    have hrl : (rngD 0 M).length = M := by unfold rngD; simp
    rw [hrl]
    refine nrm ?_
    have e0 : List.replicate M (Ow.lst []) = (List.range M).map fun t => ol ((x.arrs.take 0).filter fun a => decide (a.st = t)) := by
      rw [List.take_zero]; show _ = (List.range M).map fun _ => Ow.lst []
      rw [List.map_const', List.length_range]
    rw [e0]
    refine ds_for (die_pure (di_list (dp_call c2 (hr.mono (by decide)) (by rfl) (da_cons (dp_var 0) da_nil) ⟨x, hok, rfl, rfl⟩)) ⟨fun i ρ' O' => ∃ a b c d, ρ' = [.dat (encW x), .dat (.list []), .dat (.int x.ins), .dat (.list (x.deeds.map encD)), .dat (.list (x.outs.map encO)), .ptr 0, .dat (.int M), .ptr 2, .un, a, b, c, d, .un, .un] ∧ O' = [Ow.ins C [("ins", .dat (.int x.outs.length)), ("deeds", .ptr 1)], dl [], .lst ((List.range M).map fun t => .ptr (3 + t))] ++ (List.range M).map fun t => ol ((x.arrs.take i).filter fun a => decide (a.st = t)), ⟨_, _, _, _, rfl, rfl⟩, ?_, ?_⟩)
    · rintro i y ρ' O' hx ⟨a, b, c, d, rfl, rfl⟩
      obtain ⟨ar, har, rfl⟩ := get_map hx
      obtain ⟨f1, f2, f3, f4, f5⟩ := harr ar (List.mem_of_getElem? har)
      have hi := get_lt har
      refine ⟨_, dg_tup rfl (dgs_cons (dgn 9) (dgs_cons (dgn 10) (dgs_cons (dgn 11) (dgs_cons (dgn 12) dgs_nil)))), nrm ?_⟩
      have cat := cell_at (a := Ow.ins C [("ins", .dat (.int x.outs.length)), ("deeds", .ptr 1)]) (b := dl []) (c := .lst ((List.range M).map fun t => .ptr (3 + t))) (f := fun t => ol ((x.arrs.take i).filter fun a => decide (a.st = t))) (l := []) f1
      rw [List.append_nil] at cat
      refine ds_expr (de_append (de_item (k := 2) (xs := (List.range M).map fun t => .ptr (3 + t)) (i := ar.st) rfl (de_var 7 rfl ⟨rfl, rfl⟩) (dp_var 9) (sv := .ptr (3 + ar.st)) (atI_nat (by rw [List.getElem?_map, List.getElem?_range f1]; rfl)) ⟨3 + ar.st, _, rfl, cat, de_pure (dp_tup (da_cons (dp_var 10) (da_cons (dp_var 11) (da_cons (dp_var 12) da_nil)))) ⟨_, cat, ?_, ds_nil ⟨_, _, _, _, rfl, ?_⟩⟩⟩))
      · rw [List.length_map, List.length_map]
        have := List.length_filter_le (fun a : Arr => decide (a.st = ar.st)) (x.arrs.take i)
        rw [List.length_take] at this; omega
      · refine cell_set f1 ?_ (fun u hu => ?_)
        · rw [take_succ_snoc har, List.filter_append]
          unfold ol; simp [encX]
        · rw [take_succ_snoc har, List.filter_append]
          have : ¬ ar.st = u := fun e => hu e.symm
          simp [this]
    · rintro ρ' O' ⟨a_1, b_1, c_1, d_1, rfl, rfl⟩
      rw [List.length_map, List.take_length]
      have eL : (fun t => ol (x.arrs.filter fun a => decide (a.st = t))) = fun t => ol (x.listOf t) := rfl
      rw [eL]
      have hn0 : x.turn0.length = M + x.outs.length := by unfold Web.turn0; simp; omega
      have en : (((List.range M).map fun _ => PyData.tuple [.int 0, .int 0, .int 0]) ++ (List.range x.outs.length).map fun k : Nat => PyData.tuple [.int k, .int 0, .int 1]) = x.turn0.map encO := by
        unfold Web.turn0
        rw [hM, List.map_append, List.map_map, List.map_replicate, List.map_const', List.length_range]; rfl
      refine setE 13 (de_own (df_cat (lcp [("thing", 8)] (List.range M) (fun i : Nat => .int i) (fun _ => .tuple [.int 0, .int 0, .int 0]) (fun i => [(8, .int i)]) ?_ (fun x _ s' H' C' cl' fp' => dgn 8) (fun n hn s' H' C' cl' fp' => ?_) rfl (by rw [List.length_range]; omega)) (lcp [("k", 14)] (List.range x.outs.length) (fun i : Nat => .int i) (fun k : Nat => .tuple [.int k, .int 0, .int 1]) (fun i => [(14, .int i)]) ?_ (fun x _ s' H' C' cl' fp' => dgn 14) (fun n hn s' H' C' cl' fp' => ?_) rfl (by rw [List.length_range]; omega)) (by simp [sizeLine_eq]; omega)) ?_)
      · rw [rng_enc]; exact di_rng1 rfl B.range (dp_var 6) (by simp) (by omega) (by omega)
      · exact dp_tup (da_cons dp_int (da_cons dp_int (da_cons dp_int da_nil)))
      · rw [rng_enc]; exact di_rng1 rfl B.range (dp_len B (dp_var 4)) (by simp) (by omega) (by omega)
      · exact dp_tup (da_cons (dp_var 14) (da_cons dp_int (da_cons dp_int da_nil)))
      rw [en]
      have e3 : ([Ow.ins C [("ins", .dat (.int x.outs.length)), ("deeds", .ptr 1)], dl [], .lst ((List.range M).map fun t => .ptr (3 + t))] ++ (List.range M).map fun t => ol (x.listOf t)).length = 3 + M := by simp; omega
      rw [e3]
      have key : ∀ i, (x.turnL i).2.length = M + x.outs.length ∧ (x.turnL i).1.length ≤ 150 * i := fun i => by
        obtain ⟨k1, k2⟩ := turn_len hal ((List.range (x.ins + x.deeds.length)).reverse.take i) ([], x.turn0)
        unfold Web.turnL
        refine ⟨by rw [k1, hn0], Nat.le_trans k2 ?_⟩
        have := List.length_take_le i (List.range (x.ins + x.deeds.length)).reverse
        show 0 + _ ≤ _
        rw [Nat.zero_add]; exact Nat.mul_le_mul_left _ this
      refine ds_for (die_pure (di_rev (m := M) B (dp_var 6) (by simp) (by omega) (by omega)) ⟨fun i ρ' O' => ∃ a, ρ' = [.dat (encW x), .dat (.list []), .dat (.int x.ins), .dat (.list (x.deeds.map encD)), .dat (.list (x.outs.map encO)), .ptr 0, .dat (.int M), .ptr 2, a, a_1, b_1, c_1, d_1, .ptr (3 + M), .un] ∧ O' = ([Ow.ins C [("ins", .dat (.int x.outs.length)), ("deeds", .ptr 1)], dl (x.turnL i).1, .lst ((List.range M).map fun t => .ptr (3 + t))] ++ (List.range M).map fun t => ol (x.listOf t)) ++ [.lst (((x.turnL i).2.map encO).map .dat)], ⟨_, rfl, by unfold Web.turnL; rfl⟩, ?_, ?_⟩)
      · rintro i y ρ' O' hx ⟨a, rfl, rfl⟩
        have hx2 : ((List.range M).reverse.map fun k : Nat => PyData.int (0 + (k : Nat)))[i]? = some y := by rw [List.map_reverse]; exact hx
        obtain ⟨t, ht, rfl⟩ := get_map hx2
        have htM : t < M := by have := List.mem_of_getElem? ht; simpa using this
        have hiM : i < M := by have := get_lt ht; simpa using this
        obtain ⟨k1, k2⟩ := key i
        have tk : x.turnL (i + 1) = turnS x (x.turnL i) t := by
          unfold Web.turnL; rw [take_succ_snoc (by rw [hM]; exact ht), List.foldl_append]; rfl
        generalize x.turnL i = acc at *
        obtain ⟨dsx, ps⟩ := acc
        dsimp only at k1 k2
        refine ⟨[(8, _)], dgn 8, nrm ?_⟩
        have hpt : ∀ (O1 : Ow), (([Ow.ins C [("ins", .dat (.int x.outs.length)), ("deeds", .ptr 1)], O1, .lst ((List.range M).map fun t => .ptr (3 + t))] ++ (List.range M).map fun t => ol (x.listOf t)) ++ [.lst ((ps.map encO).map .dat)])[3 + M]? = some (.lst ((ps.map encO).map .dat)) := fun O1 => by
          rw [List.getElem?_append_right (by simp; omega)]
          have : 3 + M - ([Ow.ins C [("ins", .dat (.int x.outs.length)), ("deeds", .ptr 1)], O1, .lst ((List.range M).map fun t => .ptr (3 + t))] ++ (List.range M).map fun t => ol (x.listOf t)).length = 0 := by simp; omega
          rw [this]; rfl
        have cat : ∀ (O1 : Ow) (t : Nat), t < M → (([Ow.ins C [("ins", .dat (.int x.outs.length)), ("deeds", .ptr 1)], O1, .lst ((List.range M).map fun t => .ptr (3 + t))] ++ (List.range M).map fun t => ol (x.listOf t)) ++ [.lst ((ps.map encO).map .dat)])[3 + t]? = some (ol (x.listOf t)) := fun O1 t h => cell_at h
        have vdl : ∀ O1, Vd (([Ow.ins C [("ins", .dat (.int x.outs.length)), ("deeds", .ptr 1)], O1, .lst ((List.range M).map fun t => .ptr (3 + t))] ++ (List.range M).map fun t => ol (x.listOf t)) ++ [.lst ((ps.map encO).map .dat)]) (.ptr 2) (.list ((List.range M).map fun t => .list ((x.listOf t).map encX))) := fun O1 => .ptr rfl (vds_of fun t h => .ptr (cat O1 t (by simpa using h)) vds_map)
        have hgl : ∀ u ∈ x.listOf t, u ∈ x.arrs := fun u hu => (List.mem_filter.mp hu).1
        have hll : (x.listOf t).length ≤ 144 := Nat.le_trans (List.length_filter_le _ _) hal
        have hlf : ∀ l : List Arr, lfs (l.map fun a => encO (signP (liftP (ps.getD a.en noOut) a.sh) a.sn)) = true := fun l => by
          induction l with
          | nil => rfl
          | cons a l ih => rw [List.map_cons, lfs, ih]; rfl
        have pat : ∀ q : Nat, q < ps.length → atI (ps.map encO) (q : Int) = some (encO (ps.getD q noOut)) := fun q hq => atI_nat (by rw [List.getElem?_map, getD_at (z := noOut) hq]; rfl)
        refine ds_setitem (de_meth m3 hr (de_var 5 rfl ⟨0, _, rfl, rfl, rfl, dae_cons (de_borrowF [none, none, none, none, none, none, none, some (.list ((List.range M).map fun t => .list ((x.listOf t).map encX))), some (.int (0 + (t : Nat))), none, none, none, none, some (.list (ps.map encO)), none] (.no (.no (.no (.no (.no (.no (.no (.yes (vdl _) (.yes (.dat _) (.no (.no (.no (.no (.yes (.ptr (hpt _) vds_map) (.no .nil))))))))))))))) (lc [("end", 10), ("shift", 11), ("sign", 12)] (x.listOf t) encX (fun a => encO (signP (liftP (ps.getD a.en noOut) a.sh) a.sn)) (fun a => [(10, .int a.en), (11, .int a.sh), (12, .int a.sn)]) (di_list (dp_ixL (dp_var 7) (dp_var 8) (d := .list ((x.listOf t).map encX)) (by rw [Int.zero_add]; exact atI_nat (by rw [List.getElem?_map, List.getElem?_range htM]; rfl)))) (fun a _ s' H' C' cl' fp' => dg_tup rfl (dgs_cons (dgn 10) (dgs_cons (dgn 11) (dgs_cons (dgn 12) dgs_nil)))) (fun a ha s' H' C' cl' fp' => ?_) rfl (by omega)) (hlf _) (dae_nil ⟨0, 1, x.outs.length, dsx, (x.listOf t).map fun a => signP (liftP (ps.getD a.en noOut) a.sh) a.sn, by rw [List.map_map]; rfl, ⟨rfl, rfl⟩, by rw [List.length_map]; omega, de_var 13 rfl ⟨3 + M, rfl, de_pure (dp_var 8) ⟨0 + (t : Nat), t, _, rfl, hpt _, ?_, ds_nil ⟨_, rfl, ?_⟩⟩⟩⟩))⟩))
        · obtain ⟨f1, f2, f3, f4, f5⟩ := harr a (hgl a ha)
          exact dp_call c5 (hr.mono (by decide)) (by rfl) (da_cons (dp_call c4 (hr.mono (by decide)) (by rfl) (da_cons (dp_ixL (dp_var 13) (dp_var 10) (pat _ (by omega))) (da_cons (dp_var 11) da_nil)) ⟨_, _, rfl, rfl⟩) (da_cons (dp_var 12) da_nil)) ⟨_, _, rfl, rfl⟩
        · rw [Int.zero_add]; exact ixN_nat (by simp only [List.length_map]; omega)
        · rw [tk]
          refine (set_two (by simp)).trans ?_
          unfold turnS
          simp [List.map_set]
      · rintro ρ' O' ⟨a, rfl, rfl⟩
        have hrl2 : (rngD 0 M).reverse.length = M := by unfold rngD; simp
        rw [hrl2]
        obtain ⟨k1, k2⟩ := key M
        unfold Web.turned
        rw [hM]
        generalize x.turnL M = acc at *
        obtain ⟨dsx, ps⟩ := acc
        dsimp only at k1 k2
        refine ds_freeze (ds := ps.map encO) (3 + M) 13 rfl ?_ (nrm ?_)
        · rw [List.getElem?_append_right (by simp; omega)]
          have : 3 + M - ([Ow.ins C [("ins", .dat (.int x.outs.length)), ("deeds", .ptr 1)], dl dsx, .lst ((List.range M).map fun t => .ptr (3 + t))] ++ (List.range M).map fun t => ol (x.listOf t)).length = 0 := by simp; omega
          rw [this]; rfl
        have e5 : cutD (ps.map encO) none (some (x.ins : Int)) = (ps.take x.ins).map encO := by rw [cut_take (by rw [List.length_map]; omega), List.map_take]
        refine ds_ret (de_meth m4 (hr.mono (by decide)) (de_var 5 rfl ⟨0, [("ins", .dat (.int x.outs.length)), ("deeds", .ptr 1)], rfl, by rw [List.getElem?_set_ne (by omega)]; rfl, rfl, dae_pure (ds := [.list ((ps.take x.ins).map encO)]) (da_cons ((dp_slL (dp_var 13) do_none (do_some (dp_var 2))).is (by rw [e5])) da_nil) ⟨0, 1, x.outs.length, dsx, ps.take x.ins, rfl, ⟨?_, ?_⟩, rfl⟩⟩))
        · rw [List.getElem?_set_ne (by omega)]; rfl
        · rw [List.getElem?_set_ne (by omega)]; rfl
end
end SS
set_option maxHeartbeats 4000000
set_option exponentiation.threshold 100
/-! The walks, nine: desk.py, its words. -/
namespace SS
open PySem PySem.Spec PyProof.Rows L2
open SX (S)
theorem dp_chain {X : Cx} {δ : Dl} {a b c : Expr} {pos : Pos} {d1 d2 d3 : PyData} {p q : Bool} {op op' : CmpOp} {r r' : R2} (ho : OpR X (compareOp op) r) (ho' : OpR X (compareOp op') r') (ha : DP X a δ d1) (hb : DP X b δ d2) (hc : DP X c δ d3) (hr : RD X.K r d1 d2 (.bool p)) (hr' : RD X.K r' d2 d3 (.bool q))
    (hm : lastMarks [op, op'] [b, c] = false := by with_unfolding_all rfl) : DP X (.Compare a [op, op'] [b, c] pos) δ (.bool (p && q)) := fun F σ H sm sl Q k =>
  wE_of (pe_chain ho ho' pe_star pe_star pe_star hm) (ha F σ H sm sl _ fun x F1 H1 x1 rx => hb F1 σ H1 x1.s (sl.mono x1.f) _ fun y F2 H2 x2 ry =>
    hr x y F2 H2 x2.s (rx.mono x2.f) ry _ fun v F3 H3 x3 rv => by
      cases rv
      refine ⟨p, rfl, ?_⟩
      have xx := (x1.trans x2).trans x3
      cases p with
      | true =>
        refine iteT (hc F3 σ H3 x3.s (sl.mono xx.f) _ fun z F4 H4 x4 rz => hr' y z F4 H4 x4.s (ry.mono (x3.trans x4).f) rz _ fun w F5 H5 x5 rw' => ?_)
        cases rw'
        exact k _ F5 H5 ((xx.trans x4).trans x5) (.bl _)
      | false => exact iteF (k _ F3 H3 xx (.bl _)))
/-! numbers either way -/
def il (v : Int) : List Nat := if v < 0 then 45 :: nl v.natAbs else nl v.natAbs
theorem ofS_cat (a b : String) {l m : List Nat} (ha : Str.ofString a = S l) (hb : Str.ofString b = S m) : Str.ofString (a ++ b) = S (l ++ m) := by
  rw [Str.ofString_eq_toList] at ha hb ⊢
  have h1 : a.toList.map Char.toNat = l := SX.S_inj ha
  have h2 : b.toList.map Char.toNat = m := SX.S_inj hb
  rw [String.toList_append, List.map_append, h1, h2]
theorem il_str (v : Int) : Str.ofString (toString v) = S (il v) := by
  unfold il
  by_cases h : v < 0
  · rw [if_pos h]
    obtain ⟨n, rfl⟩ : ∃ n : Nat, v = -((n + 1 : Nat) : Int) := ⟨v.natAbs - 1, by omega⟩
    have e : (-((n + 1 : Nat) : Int)).natAbs = n + 1 := by omega
    rw [e]
    exact ofS_cat "-" (toString (n + 1)) (l := [45]) (by decide +kernel) (num_str (n + 1))
  · rw [if_neg h, num_strI (by omega)]
    congr 2; omega
def Nm (l : List Nat) : Prop := 1 ≤ l.length ∧ l.length ≤ 8 ∧ ∀ c ∈ l, 97 ≤ c ∧ c ≤ 122
def R_name (ds : List PyData) (d : PyData) : Prop := ∃ l : List Nat, Nm l ∧ ds = [.str (S l)] ∧ d = .bool true
def R_rnum (ds : List PyData) (d : PyData) : Prop := ∃ v : Int, v.natAbs < 10 ^ 60 ∧ ds = [.str (S (il v))] ∧ d = .int v
/-- a word of a kind -/
inductive Tk : Nat → List Nat → PyData → Prop
  | I (n : Nat) : 1 ≤ n → n ≤ 12 → Tk 73 (nl n) (.int n)
  | W (n : Nat) : 1 ≤ n → n ≤ 3000 → Tk 87 (nl n) (.int n)
  | X (v : Int) : v.natAbs < 10 ^ 60 → Tk 88 (il v) (.int v)
  | P (a : Nat) (s : Int) : Tp a s → Tk 80 (partL a s) (.tuple [.int a, .int s])
  | O (less : Bool) : Tk 79 [if less then 45 else 43] (.str (signS less))
  | S (o : Out) : To o → Tk 83 (outL o) (encO o)
def R_rword (ds : List PyData) (d : PyData) : Prop := ∃ (k : Nat) (l : List Nat), Tk k l d ∧ ds = [.str (S [k]), .str (S l)]
def R_ltext (ds : List PyData) (d : PyData) : Prop := ∃ v : List Int, v ≠ [] ∧ v.length ≤ 12 ∧ (∀ n ∈ v, n.natAbs < 10 ^ 4300) ∧ ds = [encI v] ∧ d = .str (S (TL.joinL [32] (v.map il)))
section
variable {P : Program} {w : World} {K : PySem.W.Frag} {mg : Str → Option Value} {base : Heap} {C : Addr}
theorem sc_113 : FnScope ["word", "sign"] ["word"] (defScope (top 113)) := ⟨rfl, rfl, rfl, by decide +kernel, rfl, by decide +kernel, by decide +kernel⟩
theorem sc_114 : FnScope ["word"] ["word"] (defScope (top 114)) := ⟨rfl, rfl, rfl, by decide +kernel, rfl, by decide +kernel, by decide +kernel⟩
theorem sc_115 : FnScope ["kind", "word", "found", "low", "high"] ["kind", "word"] (defScope (top 115)) := ⟨rfl, rfl, rfl, by decide +kernel, rfl, by decide +kernel, by decide +kernel⟩
theorem sc_116 : FnScope ["words", "kinds", "more", "behind_first"] ["words"] (defScope (top 116)) := ⟨rfl, rfl, rfl, by decide +kernel, rfl, by decide +kernel, by decide +kernel⟩
theorem sc_117 : FnScope ["values", "value"] ["values"] (defScope (top 117)) := ⟨rfl, rfl, rfl, by decide +kernel, rfl, by decide +kernel, by decide +kernel⟩
theorem letters_all {l : List Nat} (h : ∀ c ∈ l, 97 ≤ c ∧ c ≤ 122) : (l.map fun c => decide (c ∈ (Str.ofString "abcdefghijklmnopqrstuvwxyz").cps.toList)).all id = true := by
  have e : (Str.ofString "abcdefghijklmnopqrstuvwxyz").cps.toList = List.range' 97 26 := by decide +kernel
  rw [e, List.all_map]
  refine List.all_eq_true.mpr fun c hc => ?_
  have := h c hc
  simp [List.mem_range']; exact ⟨c - 97, by omega, by omega⟩
theorem cal_name (B : Bi mg) (gl : GS mg "LETTERS" "abcdefghijklmnopqrstuvwxyz") (D : Df K mg "is_name" "is_name" (top 113) ["word"]) : Cal P w K mg base "is_name" 1 ["word"] (spP K R_name) := by
  refine cal_P (N := ["word", "sign"]) D sc_113 (by rintro ds d ⟨x, _, rfl, _⟩; rfl) (by decide) (fun f cdv A outer sh H E hr ds d h => ?_)
  obtain ⟨l, ⟨h1, h2, h3⟩, rfl, rfl⟩ := h
  show DS _ _ [.dat (.str (S l)), .un] [] _ _
  have hl : (S l).length ≤ sizeLine := by rw [SX.S_len, sizeLine_eq]; omega
  refine ret1 (d := .bool (_ && _)) (dp_and (q := (l.map fun c => decide (c ∈ (Str.ofString "abcdefghijklmnopqrstuvwxyz").cps.toList)).all id) (dp_chain op_le op_le dp_int (dp_lenS B (dp_var 0) hl) dp_int rd_IB rd_IB) fun _ => ?_) ?_
  · refine dp_one ?_
    refine dp_all (ns := l.map fun c => decide (c ∈ (Str.ofString "abcdefghijklmnopqrstuvwxyz").cps.toList)) B ?_
    refine lcp [("sign", 1)] l (fun c => .str ⟨#[c]⟩) (fun c => .bool (decide (c ∈ (Str.ofString "abcdefghijklmnopqrstuvwxyz").cps.toList))) (fun c => [(1, .str ⟨#[c]⟩)]) ?_ (fun x _ s H C cl fp => dgn 1) (δ' := fun c => [some (.str (S l)), some (.str ⟨#[c]⟩)]) (fun c hc s H C cl fp => ?_) (by rw [List.map_map]; rfl) (by omega) (hδ := fun c => rfl)
    · exact di_str (z := S l) (dp_var 0)
    · exact dp_inC (dp_var 1) (dp_globS gl)
  · rw [letters_all h3, SX.S_len]; simp; omega
theorem il_neg {v : Int} (h : v < 0) : il v = 45 :: nl v.natAbs := by unfold il; rw [if_pos h]
theorem il_pos {v : Int} (h : ¬ v < 0) : il v = nl v.natAbs := by unfold il; rw [if_neg h]
theorem cal_rnum (B : Bi mg) (c1 : Cal P w K mg base "is_figures" 1 ["text", "most"] (spP K R_figs)) (D : Df K mg "read_number" "read_number" (top 114) ["word"]) : Cal P w K mg base "read_number" 2 ["word"] (spP K R_rnum) := by
  refine cal_P (N := ["word"]) D sc_114 (by rintro ds d ⟨v, _, rfl, _⟩; rfl) (by decide) (fun f cdv A outer sh H E hr ds d h => ?_)
  obtain ⟨v, hv, rfl, rfl⟩ := h
  show DS _ _ [.dat (.str (S (il v)))] [] _ _
  have ln := nl_len (by decide) hv
  have hsl : (S (il v)).length ≤ sizeLine := by rw [SX.S_len, sizeLine_eq]; unfold il; split <;> (try simp only [List.length_cons]) <;> omega
  refine if1 (dt_val (dp_startswith (dp_var 0) (dp_lit [45]))) (fun h => ?_) (fun h => ?_)
  · have hneg : v < 0 := by
      by_cases q : v < 0
      · exact q
      · exfalso
        rw [il_pos q, sw_no _ (by simp)] at h
        · cases h
        · intro e
          have := nl_dig (n := v.natAbs) (c := 45) (List.mem_of_mem_head? (by rw [e]; rfl))
          omega
    have ec : PyData.str (cutS (S (il v)) (some 1) none) = .str (S (nl v.natAbs)) := congrArg PyData.str (by rw [il_neg hneg]; exact cut_from (p := [45]) (i := 1) (by rfl))
    refine if1 (dt_w (dw_or (dt_eqS (dp_var 0) (dp_lit [45, 48])) fun _ => dw_or1 (dt_not (dt_val (dp_call c1 hr (by rfl) (da_cons ((dp_slS (dp_var 0) (do_some dp_int) do_none hsl).is ec) (da_cons dp_int da_nil)) ⟨v.natAbs, 60, ln, by decide, rfl, rfl⟩))))) (fun h => ?_) (fun _ => ?_)
    · have : ¬ S (il v) = S [45, 48] := fun e => by
        have := S_eq.mp e
        rw [il_neg hneg] at this
        injection this with _ e2
        exact nl_len1 (show v.natAbs ≠ 0 by omega) e2
      rw [decide_eq_false this] at h; cases h
    · refine ret1 (dp_neg (int_at (n := v.natAbs) (by omega) B ((dp_slS (dp_var 0) (do_some dp_int) do_none hsl).is ec))) ?_
      congr 2; omega
  · have hpos : ¬ v < 0 := fun q => by
      rw [il_neg q, show 45 :: nl v.natAbs = [45] ++ nl v.natAbs from rfl, sw_yes] at h; cases h
    rw [il_pos hpos]
    refine if1 (dt_not (dt_val (dp_call c1 hr rfl (da_cons (dp_var 0) (da_cons dp_int da_nil)) ⟨v.natAbs, 60, ln, by decide, rfl, rfl⟩))) (fun h => by cases h) (fun _ => ?_)
    refine ret1 (int_at (n := v.natAbs) (by omega) B (dp_var 0)) ?_
    congr 2; omega
/-- the words' bounds -/
def boundsT : List (Str × Option PyData) := [(S [73], some (.tuple [.int 1, .int 12])), (S [87], some (.tuple [.int 1, .int 3000])), (S [88], none)]
/-- the rows' kinds -/
def rowsT : List (Str × Option PyData) := [(S [119, 101, 98], some (.tuple [.str (S [78, 73]), .int 0])), (S [100, 101, 101, 100], some (.tuple [.str (S [72, 80, 79, 80]), .int 0])), (S [111, 117, 116], some (.tuple [.str (S [72, 83]), .int 0])), (S [115, 104, 111, 119], some (.tuple [.str (S [72]), .int 0])), (S [114, 117, 110], some (.tuple [.str (S [72, 88]), .int 1000000])), (S [119, 105, 116, 104, 105, 110], some (.tuple [.str (S [72, 87, 88]), .int 1000000])), (S [114, 97, 110, 103, 101], some (.tuple [.str (S [72, 87]), .int 0]))]
theorem cal_rword (B : Bi mg) (kb : KD K w mg "BOUNDS" boundsT) (c1 : Cal P w K mg base "read_part" 2 ["text"] (spP K R_rpart)) (c2 : Cal P w K mg base "read_out" 3 ["text"] (spP K R_rout)) (c3 : Cal P w K mg base "read_number" 2 ["word"] (spP K R_rnum)) (D : Df K mg "read_word" "read_word" (top 115) ["kind", "word"]) : Cal P w K mg base "read_word" 4 ["kind", "word"] (spP K R_rword) := by
  refine cal_P (N := ["kind", "word", "found", "low", "high"]) D sc_115 (by rintro ds d ⟨k, l, _, rfl⟩; rfl) (by decide) (fun f cdv A outer sh H E hr ds d h => ?_)
  obtain ⟨k, l, hk, rfl⟩ := h
  show DS _ _ [.dat (.str (S [k])), .dat (.str (S l)), .un, .un, .un] [] _ _
  have hr2 := hr.mono (j := 2) (by decide)
  cases hk with
  | P a s h =>
    refine if1 ((dt_eqS (dp_var 0) (dp_lit [80])).is (q := true) (by decide)) (fun _ => ?_) (fun h => by cases h)
    exact ret1 (dp_call c1 hr2 rfl (da_cons (dp_var 1) da_nil) ⟨a, s, h, rfl, rfl⟩) rfl
  | S o h =>
    refine if1 ((dt_eqS (dp_var 0) (dp_lit [80])).is (q := false) (by decide)) (fun h => by cases h) (fun _ => ?_)
    refine if1 ((dt_eqS (dp_var 0) (dp_lit [83])).is (q := true) (by decide)) (fun _ => ?_) (fun h => by cases h)
    exact ret1 (dp_call c2 hr rfl (da_cons (dp_var 1) da_nil) ⟨o, h, rfl, rfl⟩) rfl
  | O less =>
    refine if1 ((dt_eqS (dp_var 0) (dp_lit [80])).is (q := false) (by decide)) (fun h => by cases h) (fun _ => ?_)
    refine if1 ((dt_eqS (dp_var 0) (dp_lit [83])).is (q := false) (by decide)) (fun h => by cases h) (fun _ => ?_)
    refine if1 ((dt_eqS (dp_var 0) (dp_lit [79])).is (q := true) (by decide)) (fun _ => ?_) (fun h => by cases h)
    refine ret1 (dp_ixL (d := .str (signS less)) (dp_lst (da_cons dp_non (da_cons (dp_var 1) da_nil))) ((dp_intB B (dp_inT (dp_var 1) (dp_tup (da_cons (dp_lit [43]) (da_cons (dp_lit [45]) da_nil))) rfl rfl)).is (d' := .int 1) (by exact congrArg PyData.int (if_pos (sign_ins less)))) rfl) rfl
  | I n h1 h2 =>
    refine if1 ((dt_eqS (dp_var 0) (dp_lit [80])).is (q := false) (by decide)) (fun h => by cases h) (fun _ => ?_)
    refine if1 ((dt_eqS (dp_var 0) (dp_lit [83])).is (q := false) (by decide)) (fun h => by cases h) (fun _ => ?_)
    refine if1 ((dt_eqS (dp_var 0) (dp_lit [79])).is (q := false) (by decide)) (fun h => by cases h) (fun _ => ?_)
    refine set1 2 (d := .int n) (dp_call c3 hr2 rfl (da_cons (dp_var 1) da_nil) ⟨n, by omega, by rw [il_pos (by omega)]; rfl, rfl⟩) ?_
    refine if1 (dt_w (dw_or (dt_isN (d := .int n) (dp_var 2)) fun _ => dw_or1 (dt_notInKd kb (dp_var 0) (z := S [73]) (d := .tuple [.int 1, .int 12]) (.head _)))) (fun h => by cases h) (fun _ => ?_)
    refine tup1 (d := .tuple [.int 1, .int 12]) (dp_ixKd kb (dp_var 0) (z := S [73]) (.head _)) (dg_tup rfl (dgs_cons (dgn 3) (dgs_cons (dgn 4) dgs_nil))) ?_
    refine if1 (dt_not (dt_chain op_le op_le (dp_var 3) (dp_var 2) (dp_var 4) rd_IB rd_IB)) (fun h => ?_) (fun _ => ret1 (dp_var 2) rfl)
    simp at h; omega
  | W n h1 h2 =>
    refine if1 ((dt_eqS (dp_var 0) (dp_lit [80])).is (q := false) (by decide)) (fun h => by cases h) (fun _ => ?_)
    refine if1 ((dt_eqS (dp_var 0) (dp_lit [83])).is (q := false) (by decide)) (fun h => by cases h) (fun _ => ?_)
    refine if1 ((dt_eqS (dp_var 0) (dp_lit [79])).is (q := false) (by decide)) (fun h => by cases h) (fun _ => ?_)
    refine set1 2 (d := .int n) (dp_call c3 hr2 rfl (da_cons (dp_var 1) da_nil) ⟨n, by omega, by rw [il_pos (by omega)]; rfl, rfl⟩) ?_
    refine if1 (dt_w (dw_or (dt_isN (d := .int n) (dp_var 2)) fun _ => dw_or1 (dt_notInKd kb (dp_var 0) (z := S [87]) (d := .tuple [.int 1, .int 3000]) (.tail _ (.head _))))) (fun h => by cases h) (fun _ => ?_)
    refine tup1 (d := .tuple [.int 1, .int 3000]) (dp_ixKd kb (dp_var 0) (z := S [87]) (.tail _ (.head _))) (dg_tup rfl (dgs_cons (dgn 3) (dgs_cons (dgn 4) dgs_nil))) ?_
    refine if1 (dt_not (dt_chain op_le op_le (dp_var 3) (dp_var 2) (dp_var 4) rd_IB rd_IB)) (fun h => ?_) (fun _ => ret1 (dp_var 2) rfl)
    simp at h; omega
  | X v h1 =>
    refine if1 ((dt_eqS (dp_var 0) (dp_lit [80])).is (q := false) (by decide)) (fun h => by cases h) (fun _ => ?_)
    refine if1 ((dt_eqS (dp_var 0) (dp_lit [83])).is (q := false) (by decide)) (fun h => by cases h) (fun _ => ?_)
    refine if1 ((dt_eqS (dp_var 0) (dp_lit [79])).is (q := false) (by decide)) (fun h => by cases h) (fun _ => ?_)
    refine set1 2 (d := .int v) (dp_call c3 hr2 rfl (da_cons (dp_var 1) da_nil) ⟨v, h1, rfl, rfl⟩) ?_
    exact if1 (dt_w (dw_or (dt_isN (d := .int v) (dp_var 2)) fun _ => dw_or1 (dt_notInKd0 kb (dp_var 0) (z := S [88]) (.tail _ (.tail _ (.head _)))))) (fun _ => ret1 (dp_var 2) rfl) (fun h => by cases h)
theorem foldl_rep (c : Nat) : ∀ (k : Nat) (A : Array Nat), (List.replicate k #[c]).foldl (· ++ ·) A = (A.toList ++ List.replicate k c).toArray
  | 0, A => by simp
  | k + 1, A => by
    rw [List.replicate_succ, List.foldl_cons, foldl_rep c k]
    simp [List.replicate_succ]
theorem mul_one {c n : Nat} : Txt.mul ⟨#[c]⟩ (n : Int) = S (List.replicate n c) := by
  unfold Txt.mul
  by_cases h : (n : Int) < 1
  · rw [if_pos h, show n = 0 by omega]; rfl
  · rw [if_neg h]
    by_cases h2 : n = 1
    · subst h2; rfl
    · rw [if_neg (by simp [Str.length]; omega)]
      show Str.mk _ = _
      rw [Int.toNat_natCast, foldl_rep]; rfl
theorem at0 {α : Type} (x : α) (l : List α) : atI (x :: l) 0 = some x := atI_nat (i := 0) (by rfl)
def R_kinds (ds : List PyData) (d : PyData) : Prop := ∃ (z kl : List Nat) (m : Int) (c : Nat) (ws : List PyData), (S z, some (.tuple [.str (S kl), .int m])) ∈ rowsT ∧ atI kl (-1) = some c ∧ kl.length ≤ 10 ∧ kl.length ≤ ws.length ∧ (ws.length : Int) ≤ kl.length + m ∧ ws.length ≤ 1000 ∧ ds = [.list (.str (S z) :: ws)] ∧ d = .str (S (kl ++ List.replicate (ws.length - kl.length) c))
theorem cal_kinds (B : Bi mg) (kr : KD K w mg "ROWS" rowsT) (D : Df K mg "kinds_of" "kinds_of" (top 116) ["words"]) : Cal P w K mg base "kinds_of" 1 ["words"] (spP K R_kinds) := by
  refine cal_P (N := ["words", "kinds", "more", "behind_first"]) D sc_116 (by rintro ds d ⟨_, _, _, _, ws, _, _, _, _, _, _, rfl, _⟩; rfl) (by decide) (fun f cdv A outer sh H E hr ds d h => ?_)
  obtain ⟨z, kl, m, c, ws, hm, hc, h1, h2, h3, h4, rfl, rfl⟩ := h
  show DS _ _ [.dat (.list (.str (S z) :: ws)), .un, .un, .un] [] _ _
  have hk : (S kl).length ≤ sizeLine := by rw [SX.S_len, sizeLine_eq]; omega
  refine if1 (dt_notInKd kr (dp_ixL (d := .str (S z)) (dp_var 0) dp_int (at0 _ _)) hm) (fun h => by cases h) (fun _ => ?_)
  refine tup1 (dp_ixKd kr (dp_ixL (d := .str (S z)) (dp_var 0) dp_int (at0 _ _)) hm) (dg_tup rfl (dgs_cons (dgn 1) (dgs_cons (dgn 2) dgs_nil))) ?_
  refine set1 3 (d := .int ws.length) ((dp_sub (dp_len B (dp_var 0)) dp_int).is (by congr 1; simp only [List.length_cons]; omega)) ?_
  refine if1 (dt_not (dt_chain op_le op_le (dp_lenS B (dp_var 1) hk) (dp_var 3) (dp_add (dp_lenS B (dp_var 1) hk) (dp_var 2)) rd_IB rd_IB)) (fun h => ?_) (fun _ => ?_)
  · rw [SX.S_len] at h; simp at h; omega
  · refine ret1 (dp_addL (p := kl) (q := List.replicate (ws.length - kl.length) c) (dp_var 1) ?_ (by simp; omega)) rfl
    rw [← mul_one]
    refine dp_mulS (z := ⟨#[c]⟩) (dp_ixS (dp_var 1) (dp_neg dp_int) hk hc) ?_ (by omega) (by omega) (show (1 : Nat) ≤ 1000 by decide)
    refine (dp_sub (dp_var 3) (dp_lenS B (dp_var 1) hk)).is ?_
    congr 1; rw [SX.S_len]; omega
theorem il_len {v : Int} {k : Nat} (hk : 0 < k) (h : v.natAbs < 10 ^ k) : (il v).length ≤ k + 1 := by
  have := nl_len hk h
  unfold il; split <;> (try simp only [List.length_cons]) <;> omega
theorem il_sums : ∀ {v : List Int} (_ : ∀ n ∈ v, n.natAbs < 10 ^ 4300), ((v.map il).map (·.length)).sum ≤ v.length * 4301
  | [], _ => by simp
  | x :: r, h => by
    have h1 := il_sums (v := r) fun n hn => h n (List.mem_cons_of_mem _ hn)
    have h2 := il_len (by decide) (h x List.mem_cons_self)
    rw [List.map_cons, List.map_cons, List.sum_cons, List.length_cons, Nat.add_mul]
    omega
theorem cal_ltext (B : Bi mg) (nd : ND K) (D : Df K mg "list_text" "list_text" (top 117) ["values"]) : Cal P w K mg base "list_text" 1 ["values"] (spP K R_ltext) := by
  refine cal_P (N := ["values", "value"]) D sc_117 (by rintro ds d ⟨v, _, _, _, rfl, _⟩; rfl) (by decide) (fun f cdv A outer sh H E hr ds d h => ?_)
  obtain ⟨v, hne, hl, hv, rfl, rfl⟩ := h
  show DS _ _ [.dat (encI v), .un] [] _ _
  refine if1 (dt_eqDec (v = []) 1 1 hr.units (dp_var 0) (dp_lst da_nil) (by simp [encI, pl, pl_ints]) rfl (by simp [encI])) (fun h => absurd (of_decide_eq_true h) hne) (fun _ => ?_)
  refine ret1 (dp_join (ys := (v.map il).map S) (dp_lit [32]) ?_ ?_) ?_
  · refine lcp [("value", 1)] v .int (fun n => .str (S (il n))) (fun n => [(1, .int n)]) (di_list (dp_var 0)) (fun x _ s H C cl fp => dgn 1) (δ' := fun n => [some (encI v), some (.int n)]) (fun n hn s H C cl fp => ?_) (by rw [List.map_map, List.map_map]; rfl) (by omega) (hδ := fun c => rfl)
    exact (dp_strB B nd (dp_var 1) (hv n hn)).is (by rw [il_str])
  · have := il_sums hv
    rw [SX.lens, List.length_map, List.length_map, SX.S_len]
    simp only [List.length_cons, List.length_nil]
    omega
  · rw [SX.join_S]
end
end SS
set_option maxHeartbeats 4000000
set_option exponentiation.threshold 100
/-! The walks, ten: the class Desk. -/
namespace SS
open PySem PySem.Spec PyProof.Rows L2
open SX (S)
/-- a desk's table: no web, or one -/
def tabO : Option (List Nat × Web) → List (Key × SV)
  | none => []
  | some (n, x) => [(.inr (S n), .dat (encW x))]
structure Dk (C : Addr) (O : Rs) (k j : Nat) (t : Option (List Nat × Web)) : Prop where
  i : O[k]? = some (.ins C [("webs", .ptr j)])
  l : O[j]? = some (.dK (tabO t))
theorem Dk.ne {C : Addr} {O : Rs} {k j : Nat} {t : Option (List Nat × Web)} (h : Dk C O k j t) : k ≠ j := fun e => by have := h.i; rw [e, h.l] at this; cases this
theorem Dk.set {C : Addr} {O : Rs} {k j : Nat} {t u : Option (List Nat × Web)} (h : Dk C O k j t) : Dk C (O.set j (.dK (tabO u))) k j u :=
  ⟨by rw [List.getElem?_set_ne (Ne.symm h.ne)]; exact h.i, by rw [List.getElem?_set_self (List.getElem?_eq_some_iff.mp h.l).1]⟩
def S_dinit (C : Addr) (svs : List SV) (O : Rs) (post : Post) : Prop := ∃ (k : Nat), k < O.length ∧ svs = [.ptr k] ∧ O[k]? = some (.ins C []) ∧ post (.dat .none) ((O ++ [Ow.dK []]).set k (Ow.ins C [("webs", .ptr O.length)]))
/-- what a word tells the desk -/
inductive Tw (t : Option (List Nat × Web)) : Nat → List Nat → PyData → Prop
  | N (l : List Nat) : Nm l → Tw t 78 l (.str (S l))
  | H (l : List Nat) (x : Web) : Nm l → t = some (l, x) → Tw t 72 l (.str (S l))
  | K (k : Nat) (l : List Nat) (d : PyData) : Tk k l d → Tw t k l d
def S_taken (C : Addr) (svs : List SV) (O : Rs) (post : Post) : Prop := ∃ (k j : Nat) (t : Option (List Nat × Web)) (c : Nat) (l : List Nat) (d : PyData), svs = [.ptr k, .dat (.str (S [c])), .dat (.str (S l))] ∧ Dk C O k j t ∧ Tw t c l d ∧ post (.dat d) O
/-- what is told of a web -/
inductive Ta (x : Web) : List Nat → List PyData → List Nat → Prop
  | shw : Ta x [115, 104, 111, 119] [] x.textL
  | run (v : List Int) : Vl x v → x.outVals v ≠ [] → (x.outVals v).length ≤ 12 → (∀ n ∈ x.outVals v, n.natAbs < 10 ^ 4300) → Ta x [114, 117, 110] (v.map .int) (TL.joinL [32] ((x.outVals v).map il))
  | within (k : Nat) (v : List Int) : k ≤ 4000 → v.length = x.ins → x.outsW k v ≠ [] → (x.outsW k v).length ≤ 12 → (∀ n ∈ x.outsW k v, n.natAbs < 10 ^ 4300) → Ta x [119, 105, 116, 104, 105, 110] (.int k :: v.map .int) (TL.joinL [32] ((x.outsW k v).map il))
  | range (k : Nat) : x.ins = 1 → Sm x 8000 → 1 ≤ k → k ≤ 4000 → (∀ n ∈ [(rngW x k).1, (rngW x k).2], n.natAbs < 10 ^ 4300) → Ta x [114, 97, 110, 103, 101] [.int k] (TL.joinL [32] ([(rngW x k).1, (rngW x k).2].map il))
theorem cut1 {α : Type} (x : α) (l : List α) : cutD (x :: l) (some 1) none = l := by
  have h1 : HT.sIx (x :: l).length 0 (some 1) = 1 := by
    simp [HT.sIx]; try omega
  have h2 : HT.sIx (x :: l).length (x :: l).length none = l.length + 1 := by simp [HT.sIx]
  unfold cutD
  rw [h1, h2]
  simp
def S_asked (svs : List SV) (O : Rs) (post : Post) : Prop := ∃ (k : Nat) (x : Web) (z : List Nat) (ds : List PyData) (r : List Nat), svs = [.ptr k, .dat (.str (S z)), .dat (encW x), .dat (.list ds)] ∧ x.ok ∧ Ta x z ds r ∧ post (.dat (.str (S r))) O
def S_longer (C : Addr) (svs : List SV) (O : Rs) (post : Post) : Prop := ∃ (k j : Nat) (n : List Nat) (x : Web), Dk C O k j (some (n, x)) ∧ x.ok ∧
  ((∃ e : Deed, svs = [.ptr k, .dat (.str (S [100, 101, 101, 100])), .dat (.list [.str (S n), .tuple [.int e.a, .int e.s], .str (signS e.less), .tuple [.int e.b, .int e.t]])] ∧ (⟨x.ins, x.deeds ++ [e], x.outs⟩ : Web).ok ∧ post (.dat (.str (S (nl (x.ins + x.deeds.length))))) (O.set j (.dK (tabO (some (n, ⟨x.ins, x.deeds ++ [e], x.outs⟩))))))
  ∨ (∃ o : Out, svs = [.ptr k, .dat (.str (S [111, 117, 116])), .dat (.list [.str (S n), encO o])] ∧ (⟨x.ins, x.deeds, x.outs ++ [o]⟩ : Web).ok ∧ post (.dat (.str (S (nl x.outs.length)))) (O.set j (.dK (tabO (some (n, ⟨x.ins, x.deeds, x.outs ++ [o]⟩)))))))
theorem lk_tab {n : List Nat} {x : Web} : lkG (tabO (some (n, x))) (.inr (S n)) = some (.dat (encW x)) := by simp [tabO, lkG]
theorem pt_tab {n : List Nat} {x y : Web} : ptG (tabO (some (n, x))) (.inr (S n)) (.dat (encW y)) = tabO (some (n, y)) := by simp [tabO, ptG]
theorem at1 {α : Type} (x y : α) (l : List α) : atI (x :: y :: l) 1 = some y := atI_nat (i := 1) (by rfl)
def S_made (C : Addr) (svs : List SV) (O : Rs) (post : Post) : Prop := ∃ (k j : Nat) (n : List Nat) (i : Nat), Dk C O k j none ∧ (⟨i, [], []⟩ : Web).ok ∧ svs = [.ptr k, .dat (.str (S [119, 101, 98])), .dat (.list [.str (S n), .int i])] ∧ post (.dat (.str (S [111, 107]))) (O.set j (.dK (tabO (some (n, ⟨i, [], []⟩)))))
section
variable {P : Program} {w : World} {K : PySem.W.Frag} {mg : Str → Option Value} {base : Heap} {C : Addr}
theorem dm_0 : FnScope ["self"] ["self"] (defScope (meth 120 0)) := ⟨rfl, rfl, rfl, by decide +kernel, rfl, by decide +kernel, by decide +kernel⟩
theorem dm_2 : FnScope ["self", "kind", "word", "found"] ["self", "kind", "word"] (defScope (meth 120 2)) := ⟨rfl, rfl, rfl, by decide +kernel, rfl, by decide +kernel, by decide +kernel⟩
theorem mcal_dinit (cl : Cls K C) (n1 : NoAttr K C "webs") {f : Addr} {fd : FuncData} (Fn : Fun K "__init__" "Desk.__init__" (meth 120 0) f fd) : FnOk P w K mg base CX0 1 f fd ["self"] (spS K (S_dinit C)) := by
  refine fn_S0 (N := ["self"]) Fn dm_0 (by rintro svs O post ⟨k, _, rfl, _⟩; rfl) (by decide) (fun cdv A outer sh H E hr svs O post h => ?_)
  obtain ⟨k, hk, rfl, hi, hp⟩ := h
  show DS _ _ [.ptr k] O _ _
  refine ds_fld cl n1 (de_dnewK (de_var 0 rfl ⟨k, [], rfl, ?_, by simp, rfl, ds_nil ?_⟩))
  · rw [List.getElem?_append_left hk]; exact hi
  · exact hp
theorem tk_ne {k : Nat} {l : List Nat} {d : PyData} (h : Tk k l d) : (decide (k ∈ (Str.ofString "NH").cps.toList)) = false := by cases h <;> decide +kernel
theorem mcal_taken (cl : Cls K C) (n1 : NoAttr K C "webs") (c1 : Cal P w K mg base "is_name" 1 ["word"] (spP K R_name)) (c2 : Cal P w K mg base "read_word" 4 ["kind", "word"] (spP K R_rword)) (D : Mf K C "taken" "Desk.taken" (meth 120 2) ["self", "kind", "word"]) : MCal P w K mg base C "taken" 5 ["self", "kind", "word"] (spS K (S_taken C)) := by
  refine mcal_S0 (N := ["self", "kind", "word", "found"]) D cl dm_2 (by rintro svs O post ⟨k, j, t, c, l, d, rfl, _⟩; rfl) (by decide) (fun f cdv A outer sh H E hr svs O post h => ?_)
  obtain ⟨k, j, t, c, l, d, rfl, hD, hT, hp⟩ := h
  show DS _ _ [.ptr k, .dat (.str (S [c])), .dat (.str (S l)), .un] O _ _
  refine if1 (dt_inC (z := Str.ofString "NH") (dp_var 1) dp_str) (fun h => ?_) (fun h => ?_)
  · cases hT with
    | N l hn =>
      refine ds_ifR (dte_w (dwe_or (dte_pure (dt_not (dt_val (dp_call c1 (hr.mono (j := 1) (by decide)) rfl (da_cons (dp_var 2) da_nil) ⟨l, hn, rfl, rfl⟩))) ⟨(fun h => by cases h), fun _ => dwe_or1 (dte_w (dwe_and (dte_pure ((dt_eqS (dp_var 1) (dp_lit [72])).is (q := false) (by decide)) ⟨fun _ => ⟨(fun h => by cases h), fun _ => ret1 (dp_var 2) hp⟩, (fun h => by cases h)⟩)))⟩)))
    | H l x hn ht =>
      subst ht
      refine ds_ifR (dte_w (dwe_or (dte_pure (dt_not (dt_val (dp_call c1 (hr.mono (j := 1) (by decide)) rfl (da_cons (dp_var 2) da_nil) ⟨l, hn, rfl, rfl⟩))) ⟨(fun h => by cases h), fun _ => dwe_or1 (dte_w (dwe_and (dte_pure ((dt_eqS (dp_var 1) (dp_lit [72])).is (q := true) (by decide)) ⟨(fun h => by cases h), fun _ => dwe_and1 (dte_dnotinK (kx := .inr (S l)) (Nat.lt_of_le_of_lt (Nat.add_le_add_left (by decide) _) hr.units) (dp_var 2) (de_fld cl n1 (de_var 0 rfl ⟨k, _, _, rfl, hD.i, rfl, j, _, rfl, hD.l, ?_⟩)))⟩)))⟩)))
      have e : (!(lkG (tabO (some (l, x))) (.inr (S l))).isSome) = false := by simp [tabO, lkG]
      rw [e]
      exact ⟨(fun h => by cases h), fun _ => ret1 (dp_var 2) hp⟩
    | K c l d hk => rw [tk_ne hk] at h; cases h
  · cases hT with
    | N l hn => exact absurd h (by decide +kernel)
    | H l x hn ht => exact absurd h (by decide +kernel)
    | K c l d hk =>
      refine set1 3 (dp_call c2 hr rfl (da_cons (dp_var 1) (da_cons (dp_var 2) da_nil)) ⟨c, l, hk, rfl⟩) ?_
      refine if1 ((dt_isN (d := d) (dp_var 3)).is (q := false) (by cases hk <;> rfl)) (fun h => by cases h) (fun _ => ret1 (dp_var 3) hp)
theorem dm_6 : FnScope ["self", "word", "web", "told"] ["self", "word", "web", "told"] (defScope (meth 120 6)) := ⟨rfl, rfl, rfl, by decide +kernel, rfl, by decide +kernel, by decide +kernel⟩
theorem mcal_asked (B : Bi mg) (cl : Cls K C) (c1 : Cal P w K mg base "shown" 3 ["web"] (spP K R_shown)) (c2 : Cal P w K mg base "list_text" 1 ["values"] (spP K R_ltext)) (c3 : Cal P w K mg base "run_outs" 3 ["web", "values"] (spP K R_runouts)) (c4 : Cal P w K mg base "outs_in" 4 ["web", "width", "values"] (spP K R_outsin)) (c5 : Cal P w K mg base "range_in" 7 ["web", "width"] (spP K R_rangein)) (D : Mf K C "asked" "Desk.asked" (meth 120 6) ["self", "word", "web", "told"]) : MCal P w K mg base C "asked" 8 ["self", "word", "web", "told"] (spS K S_asked) := by
  refine mcal_S0 (N := ["self", "word", "web", "told"]) D cl dm_6 (by rintro svs O post ⟨k, x, z, ds, r, rfl, _⟩; rfl) (by decide) (fun f cdv A outer sh H E hr svs O post h => ?_)
  obtain ⟨k, x, z, ds, r, rfl, hok, hT, hp⟩ := h
  show DS _ _ [.ptr k, .dat (.str (S z)), .dat (encW x), .dat (.list ds)] O _ _
  have r1 := hr.mono (j := 1) (by decide)
  cases hT with
  | shw =>
    refine if1 ((dt_eqS (dp_var 1) (dp_lit [115, 104, 111, 119])).is (q := true) (by decide)) (fun _ => ?_) (fun h => by cases h)
    exact ret1 (dp_call c1 (hr.mono (by decide)) rfl (da_cons (dp_var 2) da_nil) ⟨x, hok, rfl, rfl⟩) hp
  | run v h1 h2 h3 h4 =>
    refine if1 ((dt_eqS (dp_var 1) (dp_lit [115, 104, 111, 119])).is (q := false) (by decide)) (fun h => by cases h) (fun _ => ?_)
    refine if1 ((dt_eqS (dp_var 1) (dp_lit [110, 117, 109, 98, 101, 114, 115])).is (q := false) (by decide)) (fun h => by cases h) (fun _ => ?_)
    refine if1 ((dt_eqS (dp_var 1) (dp_lit [114, 117, 110])).is (q := true) (by decide)) (fun _ => ?_) (fun h => by cases h)
    exact ret1 (dp_call c2 r1 rfl (da_cons (dp_call c3 (hr.mono (by decide)) rfl (da_cons (dp_var 2) (da_cons (dp_var 3) da_nil)) ⟨x, v, hok, h1, rfl, rfl⟩) da_nil) ⟨_, h2, h3, h4, rfl, rfl⟩) hp
  | within n v h1 h2 h3 h4 h5 =>
    refine if1 ((dt_eqS (dp_var 1) (dp_lit [115, 104, 111, 119])).is (q := false) (by decide)) (fun h => by cases h) (fun _ => ?_)
    refine if1 ((dt_eqS (dp_var 1) (dp_lit [110, 117, 109, 98, 101, 114, 115])).is (q := false) (by decide)) (fun h => by cases h) (fun _ => ?_)
    refine if1 ((dt_eqS (dp_var 1) (dp_lit [114, 117, 110])).is (q := false) (by decide)) (fun h => by cases h) (fun _ => ?_)
    refine if1 ((dt_eqS (dp_var 1) (dp_lit [119, 105, 116, 104, 105, 110])).is (q := true) (by decide)) (fun _ => ?_) (fun h => by cases h)
    exact ret1 (dp_call c2 r1 rfl (da_cons (dp_call c4 (hr.mono (by decide)) rfl (da_cons (dp_var 2) (da_cons (dp_ixL (d := .int n) (dp_var 3) dp_int (at0 _ _)) (da_cons ((dp_slL (dp_var 3) (do_some dp_int) do_none).is (d' := encI v) (by rw [cut1]; rfl)) da_nil))) ⟨x, v, n, hok, h1, h2, rfl, rfl⟩) da_nil) ⟨_, h3, h4, h5, rfl, rfl⟩) hp
  | range n h1 h2 h3 h4 h5 =>
    refine if1 ((dt_eqS (dp_var 1) (dp_lit [115, 104, 111, 119])).is (q := false) (by decide)) (fun h => by cases h) (fun _ => ?_)
    refine if1 ((dt_eqS (dp_var 1) (dp_lit [110, 117, 109, 98, 101, 114, 115])).is (q := false) (by decide)) (fun h => by cases h) (fun _ => ?_)
    refine if1 ((dt_eqS (dp_var 1) (dp_lit [114, 117, 110])).is (q := false) (by decide)) (fun h => by cases h) (fun _ => ?_)
    refine if1 ((dt_eqS (dp_var 1) (dp_lit [119, 105, 116, 104, 105, 110])).is (q := false) (by decide)) (fun h => by cases h) (fun _ => ?_)
    refine if1 ((dt_eqS (dp_var 1) (dp_lit [114, 97, 110, 103, 101])).is (q := true) (by decide)) (fun _ => ?_) (fun h => by cases h)
    exact ret1 (dp_call c2 r1 rfl (da_cons (dp_listT B (dp_call c5 hr rfl (da_cons (dp_var 2) (da_cons (dp_ixL (d := .int n) (dp_var 3) dp_int (at0 _ _)) da_nil)) ⟨x, n, hok, h1, h2, h3, h4, rfl, rfl⟩)) da_nil) ⟨_, by simp, by simp, h5, rfl, rfl⟩) hp
theorem dm_4 : FnScope ["self", "word", "told", "ins", "deeds", "outs", "web"] ["self", "word", "told"] (defScope (meth 120 4)) := ⟨rfl, rfl, rfl, by decide +kernel, rfl, by decide +kernel, by decide +kernel⟩
theorem sm_log {a b : Nat} (h1 : a ≤ 12) (h2 : b ≤ 60) : ((a : Int) + (b : Int)).natAbs.log2 < 1920 := by
  have h : ((a : Int) + (b : Int)).natAbs ≤ 72 := by omega
  have := Nat.log2_self_le (n := ((a : Int) + (b : Int)).natAbs)
  by_cases h0 : ((a : Int) + (b : Int)).natAbs = 0
  · rw [h0]; decide
  · rw [Nat.log2_lt h0]
    exact Nat.lt_of_le_of_lt h (by decide +kernel)
theorem mcal_longer (B : Bi mg) (cl : Cls K C) (n1 : NoAttr K C "webs") (c1 : Cal P w K mg base "web_of" 6 ["ins", "deeds", "outs"] (spP K R_webof)) (c2 : Cal P w K mg base "deed_of_texts" 1 ["sign", "one", "other"] (spP K R_deedof)) (D : Mf K C "longer" "Desk.longer" (meth 120 4) ["self", "word", "told"]) : MCal P w K mg base C "longer" 7 ["self", "word", "told"] (spS K (S_longer C)) := by
  refine mcal_S0 (N := ["self", "word", "told", "ins", "deeds", "outs", "web"]) D cl dm_4 (by rintro svs O post ⟨k, j, n, x, _, _, (⟨e, rfl, _⟩ | ⟨o, rfl, _⟩)⟩ <;> rfl) (by decide) (fun f cdv A outer sh H E hr svs O post h => ?_)
  obtain ⟨k, j, n, x, hD, hok, h⟩ := h
  have hu := Nat.lt_of_le_of_lt (Nat.add_le_add_left (show 1 ≤ 64 by decide) _) hr.units
  rcases h with ⟨e, rfl, ok2, hp⟩ | ⟨o, rfl, ok2, hp⟩
  · show DS _ _ [.ptr k, .dat (.str (S [100, 101, 101, 100])), .dat (.list [.str (S n), .tuple [.int e.a, .int e.s], .str (signS e.less), .tuple [.int e.b, .int e.t]]), .un, .un, .un, .un] O _ _
    refine tupE (de_dgetK hu (de_fld cl n1 (de_var 0 rfl ⟨k, _, _, rfl, hD.i, rfl, j, _, .inr (S n), _, rfl, hD.l, dp_ixL (dp_var 2) dp_int (at0 _ _), lk_tab, _, _, rfl, dg_tup rfl (dgs_cons (dgn 3) (dgs_cons (dgn 4) (dgs_cons (dgn 5) dgs_nil))), ?_⟩)))
    show DS _ _ [.ptr k, .dat (.str (S [100, 101, 101, 100])), .dat (.list [.str (S n), .tuple [.int e.a, .int e.s], .str (signS e.less), .tuple [.int e.b, .int e.t]]), .dat (.int x.ins), .dat (.list (x.deeds.map encD)), .dat (.list (x.outs.map encO)), .un] O _ _
    refine if1 ((dt_eqS (dp_var 1) (dp_lit [100, 101, 101, 100])).is (q := true) (by decide)) (fun _ => ?_) (fun h => by cases h)
    refine set1 6 (d := encW ⟨x.ins, x.deeds ++ [e], x.outs⟩) (dp_call c1 hr rfl (da_cons (dp_var 3) (da_cons ((dp_cat (dp_var 4) (dp_lst (da_cons (dp_call c2 (hr.mono (j := 1) (by decide)) (by rfl) (da_cons (dp_ixL (dp_var 2) dp_int rfl) (da_cons (dp_ixL (dp_var 2) dp_int rfl) (da_cons (dp_ixL (dp_var 2) dp_int rfl) da_nil))) ⟨e, rfl, rfl⟩) da_nil)) ?_).is (d' := .list ((x.deeds ++ [e]).map encD)) (by rw [List.map_append]; rfl)) (da_cons (dp_var 5) da_nil))) ⟨_, ok2, rfl, rfl⟩) ?_
    · have := hok.dl; simp [sizeLine_eq]; omega
    refine ds_dputK hu (de_var 6 rfl (de_fld cl n1 (de_var 0 rfl ⟨k, _, _, rfl, hD.i, rfl, j, _, .inr (S n), rfl, hD.l, dp_ixL (dp_var 2) dp_int (at0 _ _), by simp [tabO], ?_⟩)))
    rw [pt_tab]
    refine ret1 ((dp_strI B (dp_add (dp_var 3) (dp_len B (dp_var 4))) ?_).is (d' := .str (S (nl (x.ins + x.deeds.length)))) (by rw [List.length_map, show (x.ins : Int) + x.deeds.length = ((x.ins + x.deeds.length : Nat) : Int) by omega, num_str])) hp
    exact sm_log hok.i2 (by rw [List.length_map]; exact hok.dl)
  · show DS _ _ [.ptr k, .dat (.str (S [111, 117, 116])), .dat (.list [.str (S n), encO o]), .un, .un, .un, .un] O _ _
    refine tupE (de_dgetK hu (de_fld cl n1 (de_var 0 rfl ⟨k, _, _, rfl, hD.i, rfl, j, _, .inr (S n), _, rfl, hD.l, dp_ixL (dp_var 2) dp_int (at0 _ _), lk_tab, _, _, rfl, dg_tup rfl (dgs_cons (dgn 3) (dgs_cons (dgn 4) (dgs_cons (dgn 5) dgs_nil))), ?_⟩)))
    show DS _ _ [.ptr k, .dat (.str (S [111, 117, 116])), .dat (.list [.str (S n), encO o]), .dat (.int x.ins), .dat (.list (x.deeds.map encD)), .dat (.list (x.outs.map encO)), .un] O _ _
    refine if1 ((dt_eqS (dp_var 1) (dp_lit [100, 101, 101, 100])).is (q := false) (by decide)) (fun h => by cases h) (fun _ => ?_)
    refine ds_dputK hu (de_pure (d := encW ⟨x.ins, x.deeds, x.outs ++ [o]⟩) (dp_call c1 hr rfl (da_cons (dp_var 3) (da_cons (dp_var 4) (da_cons ((dp_cat (dp_var 5) (dp_lst (da_cons (dp_ixL (d := encO o) (dp_var 2) dp_int rfl) da_nil)) ?_).is (d' := .list ((x.outs ++ [o]).map encO)) (by rw [List.map_append]; rfl)) da_nil))) ⟨_, ok2, rfl, rfl⟩) (de_fld cl n1 (de_var 0 rfl ⟨k, _, _, rfl, hD.i, rfl, j, _, .inr (S n), rfl, hD.l, dp_ixL (dp_var 2) dp_int (at0 _ _), by simp [tabO], ?_⟩)))
    · have := hok.ol; simp [sizeLine_eq]; omega
    rw [pt_tab]
    exact ret1 (dp_strN (n := x.outs.length) B ((dp_len B (dp_var 5)).is (by rw [List.length_map])) (Nat.lt_of_le_of_lt hok.ol (by decide))) hp
theorem dm_3 : FnScope ["self", "word", "told", "web", "answer"] ["self", "word", "told"] (defScope (meth 120 3)) := ⟨rfl, rfl, rfl, by decide +kernel, rfl, by decide +kernel, by decide +kernel⟩
theorem mcal_made (cl : Cls K C) (n1 : NoAttr K C "webs") (c1 : Cal P w K mg base "web_of" 6 ["ins", "deeds", "outs"] (spP K R_webof)) (D : Mf K C "made" "Desk.made" (meth 120 3) ["self", "word", "told"]) : MCal P w K mg base C "made" 7 ["self", "word", "told"] (spS K (S_made C)) := by
  refine mcal_S0 (N := ["self", "word", "told", "web", "answer"]) D cl dm_3 (by rintro svs O post ⟨k, j, n, i, _, _, rfl, _⟩; rfl) (by decide) (fun f cdv A outer sh H E hr svs O post h => ?_)
  obtain ⟨k, j, n, i, hD, hok, rfl, hp⟩ := h
  have hu := Nat.lt_of_le_of_lt (Nat.add_le_add_left (show 1 ≤ 64 by decide) _) hr.units
  show DS _ _ [.ptr k, .dat (.str (S [119, 101, 98])), .dat (.list [.str (S n), .int i]), .un, .un] O _ _
  refine set1 3 dp_non ?_
  refine ds_if (mid := fun ρ' O' => ρ' = [.ptr k, .dat (.str (S [119, 101, 98])), .dat (.list [.str (S n), .int i]), .dat (encW ⟨i, [], []⟩), .un] ∧ O' = O) (dte_pure ((dt_eqS (dp_var 1) (dp_lit [119, 101, 98])).is (q := true) (by decide)) ⟨fun _ => ?_, (fun h => by cases h)⟩) (fun ρ' O' hm => ?_)
  · exact set1 3 (d := encW ⟨i, [], []⟩) (dp_call c1 hr rfl (da_cons (dp_ixL (d := .int i) (dp_var 2) dp_int rfl) (da_cons (dp_lst da_nil) (da_cons (dp_lst da_nil) da_nil))) ⟨⟨i, [], []⟩, hok, rfl, rfl⟩) (ds_nil ⟨rfl, rfl⟩)
  obtain ⟨rfl, rfl⟩ := hm
  refine ds_dputK hu (de_var 3 rfl (de_fld cl n1 (de_var 0 rfl ⟨k, _, _, rfl, hD.i, rfl, j, _, .inr (S n), rfl, hD.l, dp_ixL (dp_var 2) dp_int (at0 _ _), by simp [tabO], ?_⟩)))
  refine if1 ((dt_eqS (dp_var 1) (dp_lit [102, 101, 119, 101, 115, 116])).is (q := false) (by decide)) (fun h => by cases h) (fun _ => ?_)
  exact ret1 (dp_lit [111, 107]) hp
end
end SS
set_option maxHeartbeats 4000000
set_option exponentiation.threshold 100
/-! The walks, eleven: Desk.say. -/
namespace SS
open PySem PySem.Spec PyProof.Rows L2
open SX (S)
/-- a row's word behind the first: kind, text, what it tells -/
structure Wd where
  c : Nat
  l : List Nat
  d : PyData
/-- what a row does to a desk -/
inductive Sy (t : Option (List Nat × Web)) : List Nat → List Nat → List Wd → Option (List Nat × Web) → List Nat → Prop
  | web (n : List Nat) (i : Nat) (ws : List Wd) : t = none → (⟨i, [], []⟩ : Web).ok → ws.map (·.d) = [.str (S n), .int i] → Sy t [119, 101, 98] [78, 73] ws (some (n, ⟨i, [], []⟩)) [111, 107]
  | deed (n : List Nat) (x : Web) (e : Deed) (ws : List Wd) : t = some (n, x) → x.ok → (⟨x.ins, x.deeds ++ [e], x.outs⟩ : Web).ok → ws.map (·.d) = [.str (S n), .tuple [.int e.a, .int e.s], .str (signS e.less), .tuple [.int e.b, .int e.t]] → Sy t [100, 101, 101, 100] [72, 80, 79, 80] ws (some (n, ⟨x.ins, x.deeds ++ [e], x.outs⟩)) (nl (x.ins + x.deeds.length))
  | out (n : List Nat) (x : Web) (o : Out) (ws : List Wd) : t = some (n, x) → x.ok → (⟨x.ins, x.deeds, x.outs ++ [o]⟩ : Web).ok → ws.map (·.d) = [.str (S n), encO o] → Sy t [111, 117, 116] [72, 83] ws (some (n, ⟨x.ins, x.deeds, x.outs ++ [o]⟩)) (nl x.outs.length)
  | ask (n : List Nat) (x : Web) (z kl r : List Nat) (ds : List PyData) (ws : List Wd) : t = some (n, x) → x.ok → Ta x z ds r → ws.map (·.d) = .str (S n) :: ds → ws.map (·.c) = kl → Sy t z kl ws t r
theorem Dk.app {C : Addr} {O : Rs} {k j : Nat} {t : Option (List Nat × Web)} (h : Dk C O k j t) (R : Rs) : Dk C (O ++ R) k j t :=
  ⟨by rw [List.getElem?_append_left (List.getElem?_eq_some_iff.mp h.i).1]; exact h.i, by rw [List.getElem?_append_left (List.getElem?_eq_some_iff.mp h.l).1]; exact h.l⟩
def Kd (z : List Nat) (ws : List Wd) : Prop := ∃ (kl : List Nat) (m : Int) (c : Nat), (S z, some (.tuple [.str (S kl), .int m])) ∈ rowsT ∧ atI kl (-1) = some c ∧ kl.length ≤ 10 ∧ kl.length ≤ ws.length ∧ (ws.length : Int) ≤ kl.length + m ∧ ws.length ≤ 1000 ∧ ws.map (·.c) = kl ++ List.replicate (ws.length - kl.length) c
def sayL (z : List Nat) (ws : List Wd) : List Nat := TL.joinL [32] (z :: ws.map (·.l))
def S_say (C : Addr) (svs : List SV) (O : Rs) (post : Post) : Prop := ∃ (k j : Nat) (t u : Option (List Nat × Web)) (z r : List Nat) (ws : List Wd), svs = [.ptr k, .dat (.str (S (sayL z ws)))] ∧ (∀ c ∈ O, c.below O.length) ∧ Dk C O k j t ∧ Kd z ws ∧ (∀ w ∈ ws, Tw t w.c w.l w.d ∧ 32 ∉ w.l) ∧ 32 ∉ z ∧ (sayL z ws).length ≤ 100000 ∧ Sy t z (ws.map (·.c)) ws u r ∧ post (.dat (.str (S r))) (O.set j (.dK (tabO u)))
theorem tab_below (u : Option (List Nat × Web)) (n : Nat) : (Ow.dK (tabO u)).below n := by
  intro x hx
  cases u with
  | none => cases hx
  | some p => obtain ⟨a, b⟩ := p; simp [tabO] at hx; subst hx; trivial
theorem cut_say {O : Rs} {j : Nat} {u : Option (List Nat × Web)} {d : PyData} {post : Post} (hO : ∀ c ∈ O, c.below O.length) (hj : j < O.length) (hp : post (.dat d) (O.set j (.dK (tabO u)))) : Cut O post (.dat d) ((O ++ [Ow.dead]).set j (.dK (tabO u))) := by
  have e : ((O ++ [Ow.dead]).set j (.dK (tabO u))).take O.length = O.set j (.dK (tabO u)) := by
    rw [List.set_append_left _ _ hj, List.take_left' (by rw [List.length_set])]
  refine ⟨O.length, Nat.le_refl _, trivial, ?_, ?_⟩
  · rw [e]
    intro c hc
    rcases List.mem_or_eq_of_mem_set hc with h | rfl
    · exact hO c h
    · exact tab_below _ _
  · rw [e]; exact hp
section
variable {P : Program} {w : World} {K : PySem.W.Frag} {mg : Str → Option Value} {base : Heap} {C : Addr}
theorem dm_1 : FnScope ["self", "row", "words", "kinds", "word", "told", "kind"] ["self", "row"] (defScope (meth 120 1)) := ⟨rfl, rfl, rfl, by decide +kernel, rfl, by decide +kernel, by decide +kernel⟩
theorem mcal_say (B : Bi mg) (cl : Cls K C) (n1 : NoAttr K C "webs") (c1 : Cal P w K mg base "kinds_of" 1 ["words"] (spP K R_kinds)) (m2 : MCal P w K mg base C "taken" 5 ["self", "kind", "word"] (spS K (S_taken C))) (m3 : MCal P w K mg base C "made" 7 ["self", "word", "told"] (spS K (S_made C))) (m4 : MCal P w K mg base C "longer" 7 ["self", "word", "told"] (spS K (S_longer C))) (m6 : MCal P w K mg base C "asked" 8 ["self", "word", "web", "told"] (spS K S_asked)) (D : Mf K C "say" "Desk.say" (meth 120 1) ["self", "row"]) : MCal P w K mg base C "say" 9 ["self", "row"] (spS K (S_say C)) := by
  refine mcal_S (N := ["self", "row", "words", "kinds", "word", "told", "kind"]) D cl dm_1 (by rintro svs O post ⟨k, j, t, u, z, r, ws, rfl, _⟩; rfl) (by decide) (fun f cdv A outer sh H E hr svs O post h => ?_)
  obtain ⟨k, j, t, u, z, r, ws, rfl, hO, hD, hK, hW, hz, hl, hS, hp⟩ := h
  have hu := Nat.lt_of_le_of_lt (Nat.add_le_add_left (show 1 ≤ 64 by decide) _) hr.units
  show DS _ _ [.ptr k, .dat (.str (S (sayL z ws))), .un, .un, .un, .un, .un] O _ _
  have hs : Txt.split (S (sayL z ws)) (S [32]) = (z :: ws.map (·.l)).map S := split_sp (by simp) (by
    intro p hp
    rcases List.mem_cons.mp hp with rfl | hp
    · exact hz
    · obtain ⟨w, hw, rfl⟩ := List.mem_map.mp hp
      exact (hW w hw).2)
  refine if1 (dt_not (dt_val (dp_isi (p := true) B (dp_var 1) B.str PyProof.Rows.boot_str rfl rfl))) (fun h => by cases h) (fun _ => ?_)
  refine set1 2 (d := .list (.str (S z) :: ws.map fun w => .str (S w.l))) ((dp_split (dp_var 1) (dp_lit [32]) (by decide) (by rw [SX.S_len, sizeLine_eq]; omega)).is (by rw [hs]; simp)) ?_
  obtain ⟨kl, m, c, k1, k2, k3, k4, k5, k6, k7⟩ := hK
  refine set1 3 (d := .str (S (ws.map (·.c)))) (dp_call c1 (hr.mono (j := 1) (by decide)) rfl (da_cons (dp_var 2) da_nil) ⟨z, kl, m, c, _, k1, k2, k3, by rw [List.length_map]; exact k4, by rw [List.length_map]; exact k5, by rw [List.length_map]; exact k6, rfl, by rw [k7, List.length_map]⟩) ?_
  refine setLE 5 [("kind", 6), ("word", 4)] (die_pure (di_zip2 B (dp_var 3) (dp_slL (dp_var 2) (do_some dp_int) do_none) (.str _) (.lst _)) ⟨by rw [cut1, List.length_map]; exact Nat.le_trans (List.length_zip ▸ Nat.min_le_right _ _) (by rw [List.length_map]; omega), fun i O' => O' = O ++ [.lst ((ws.take i).map fun w => .dat w.d)], by simp, ?_, ?_⟩)
  · rintro i y O' hx rfl
    rw [cut1] at hx
    obtain ⟨wd, hwd, rfl⟩ : ∃ wd, ws[i]? = some wd ∧ y = .tuple [.str ⟨#[wd.c]⟩, .str (S wd.l)] := by
      have hx2 : (ws.map fun wd => PyData.tuple [.str ⟨#[wd.c]⟩, .str (S wd.l)])[i]? = some y := by
        rw [← hx]; congr 1
        show _ = List.map _ (List.zip (((ws.map (·.c))).map fun c => PyData.str ⟨#[c]⟩) _)
        rw [List.map_map, List.zip_map', List.map_map]; rfl
      rw [List.getElem?_map] at hx2
      cases hw : ws[i]? with
      | none => rw [hw] at hx2; cases hx2
      | some wd => rw [hw] at hx2; exact ⟨wd, rfl, by injection hx2 with e; exact e.symm⟩
    have hm := List.mem_of_getElem? hwd
    refine ⟨[(6, .str ⟨#[wd.c]⟩), (4, .str (S wd.l))], by simp, fun s' H' C' cl' fp' => dg_tup rfl (dgs_cons (dgn 6) (dgs_cons (dgn 4) dgs_nil)), fun s' H' C' cl' fp' => de_meth m2 (hr.mono (by decide)) (de_var 0 rfl ⟨k, [("webs", .ptr j)], rfl, ?_, by simp; decide +kernel, dae_pure (da_cons (dp_var 6) (da_cons (dp_var 4) da_nil)) ⟨k, j, t, wd.c, wd.l, wd.d, rfl, ?_, (hW wd hm).1, ?_⟩⟩)⟩
    · exact (hD.app _).i
    · exact hD.app _
    · refine ⟨_, List.getElem?_concat_length, ?_, ?_⟩
      · simp; omega
      · rw [List.set_append_right _ _ (Nat.le_refl _), Nat.sub_self]; show _ = _ ++ [Ow.lst (List.map _ (List.take (i + 1) ws))]; rw [List.take_add_one, hwd]; simp
  rintro O' hO'
  have hO2 : O' = O ++ [.lst ((ws.map (·.d)).map .dat)] := by
    rw [hO', List.length_map, cut1]
    have e : ((List.map (fun c => PyData.str ⟨#[c]⟩) (S (ws.map (·.c))).cps.toList).zip (ws.map fun w => PyData.str (S w.l))).length = ws.length := by
      show ((List.map (fun c => PyData.str ⟨#[c]⟩) (ws.map (·.c))).zip (ws.map fun w => PyData.str (S w.l))).length = _
      rw [List.length_zip, List.length_map, List.length_map, List.length_map, Nat.min_self]
    rw [e, List.take_length, List.map_map]; rfl
  clear hO'
  subst hO2
  refine ds_freeze O.length 5 (ds := ws.map (·.d)) rfl (by rw [List.getElem?_append_right (Nat.le_refl _), Nat.sub_self]; rfl) ?_
  have hst : (O ++ [Ow.lst ((ws.map (·.d)).map .dat)]).set O.length .dead = O ++ [.dead] := by
    rw [List.set_append_right _ _ (Nat.le_refl _), Nat.sub_self]; rfl
  rw [hst]
  have hDa : Dk C (O ++ [.dead]) k j t := hD.app _
  have hj : j < O.length := (List.getElem?_eq_some_iff.mp hD.l).1
  refine set1 4 (d := .str (S z)) (dp_ixL (dp_var 2) dp_int (at0 _ _)) ?_
  refine nrm (ρ' := [.ptr k, .dat (.str (S (sayL z ws))), .dat (.list (.str (S z) :: ws.map fun w => .str (S w.l))), .dat (.str (S (ws.map (·.c)))), .dat (.str (S z)), .dat (.list (ws.map (·.d))), .un]) ?_
  have hkz : ws.map (·.c) = kl ++ List.replicate (ws.length - kl.length) c := k7
  have fin : ∀ {d : PyData}, post (.dat d) (O.set j (.dK (tabO u))) → Cut O post (.dat d) ((O ++ [Ow.dead]).set j (.dK (tabO u))) := fun h => cut_say hO hj h
  have c0 : ∀ (x : Nat) (l : List Nat), ws.map (·.c) = x :: l → atI (S (ws.map (·.c))).cps.toList 0 = some x := fun x l e => by rw [e]; exact at0 x l
  have cl0 : (S (ws.map (·.c))).length ≤ sizeLine := by rw [SX.S_len, List.length_map, sizeLine_eq]; omega
  generalize hkc : ws.map (·.c) = kc at hS hkz c0 cl0
  cases hS with
  | web n i _ ht ok hd =>
    refine if1 ((dt_eqS (dp_var 4) (dp_lit [115, 105, 103, 110, 115])).is (q := false) (by decide)) (fun h => by cases h) (fun _ => ?_)
    refine if1 ((dt_eqS (dp_ixS (dp_var 3) dp_int cl0 (c0 78 _ rfl)) (dp_lit [78])).is (q := true) (by decide)) (fun _ => ?_) (fun h => by cases h)
    subst ht
    exact ds_ret (de_meth m3 (hr.mono (by decide)) (de_var 0 rfl ⟨k, _, rfl, hDa.i, by simp; decide +kernel, dae_pure (da_cons (dp_var 4) (da_cons (dp_var 5) da_nil)) ⟨k, j, n, i, hDa, ok, by rw [hd]; rfl, fin hp⟩⟩))
  | deed n x e _ ht ok ok2 hd =>
    refine if1 ((dt_eqS (dp_var 4) (dp_lit [115, 105, 103, 110, 115])).is (q := false) (by decide)) (fun h => by cases h) (fun _ => ?_)
    refine if1 ((dt_eqS (dp_ixS (dp_var 3) dp_int cl0 (c0 72 _ rfl)) (dp_lit [78])).is (q := false) (by decide)) (fun h => by cases h) (fun _ => ?_)
    refine if1 ((dt_inT (dp_var 4) (dp_tup (da_cons (dp_lit [100, 101, 101, 100]) (da_cons (dp_lit [111, 117, 116]) da_nil))) rfl rfl).is (q := true) (by decide)) (fun _ => ?_) (fun h => by cases h)
    subst ht
    exact ds_ret (de_meth m4 (hr.mono (by decide)) (de_var 0 rfl ⟨k, _, rfl, hDa.i, by simp; decide +kernel, dae_pure (da_cons (dp_var 4) (da_cons (dp_var 5) da_nil)) ⟨k, j, n, x, hDa, ok, .inl ⟨e, by rw [hd]; rfl, ok2, fin hp⟩⟩⟩))
  | out n x o _ ht ok ok2 hd =>
    refine if1 ((dt_eqS (dp_var 4) (dp_lit [115, 105, 103, 110, 115])).is (q := false) (by decide)) (fun h => by cases h) (fun _ => ?_)
    refine if1 ((dt_eqS (dp_ixS (dp_var 3) dp_int cl0 (c0 72 _ rfl)) (dp_lit [78])).is (q := false) (by decide)) (fun h => by cases h) (fun _ => ?_)
    refine if1 ((dt_inT (dp_var 4) (dp_tup (da_cons (dp_lit [100, 101, 101, 100]) (da_cons (dp_lit [111, 117, 116]) da_nil))) rfl rfl).is (q := true) (by decide)) (fun _ => ?_) (fun h => by cases h)
    subst ht
    exact ds_ret (de_meth m4 (hr.mono (by decide)) (de_var 0 rfl ⟨k, _, rfl, hDa.i, by simp; decide +kernel, dae_pure (da_cons (dp_var 4) (da_cons (dp_var 5) da_nil)) ⟨k, j, n, x, hDa, ok, .inr ⟨o, by rw [hd]; rfl, ok2, fin hp⟩⟩⟩))
  | ask n x _ _ _ ds _ ht ok hT hd hc =>
    have hsame : (O ++ [Ow.dead]).set j (.dK (tabO t)) = O ++ [Ow.dead] := by
      obtain ⟨hl, he⟩ := List.getElem?_eq_some_iff.mp hDa.l
      rw [← he, List.set_getElem_self]
    have fin' := fin hp
    rw [hsame] at fin'
    have go : ∀ (h72 : ∃ l, kc = 72 :: l) (hz1 : decide (S z = S [115, 105, 103, 110, 115]) = false) (hz2 : ([PyData.str (S [100, 101, 101, 100]), PyData.str (S [111, 117, 116])].any fun y => eqF y (.str (S z))) = false) (hz3 : ([PyData.str (S [112, 114, 117, 110, 101]), PyData.str (S [98, 97, 114, 101]), PyData.str (S [116, 117, 114, 110])].any fun y => eqF y (.str (S z))) = false), DS (bX P w K mg base ["self", "row", "words", "kinds", "word", "told", "kind"] "Desk.say" (meth 120 1) f cdv A outer sh H E) ((defBody (meth 120 1)).drop 5) [.ptr k, .dat (.str (S (sayL z ws))), .dat (.list (.str (S z) :: ws.map fun w => .str (S w.l))), .dat (.str (S kc)), .dat (.str (S z)), .dat (.list (ws.map (·.d))), .un] (O ++ [.dead]) (fun _ O' => Cut O post (.dat .none) O') (Cut O post) := by
      rintro ⟨l, hl72⟩ hz1 hz2 hz3
      refine if1 ((dt_eqS (dp_var 4) (dp_lit [115, 105, 103, 110, 115])).is (q := false) hz1) (fun h => by cases h) (fun _ => ?_)
      refine if1 ((dt_eqS (dp_ixS (dp_var 3) dp_int cl0 (c0 72 _ hl72)) (dp_lit [78])).is (q := false) (by decide)) (fun h => by cases h) (fun _ => ?_)
      refine if1 ((dt_inT (dp_var 4) (dp_tup (da_cons (dp_lit [100, 101, 101, 100]) (da_cons (dp_lit [111, 117, 116]) da_nil))) rfl rfl).is (q := false) hz2) (fun h => by cases h) (fun _ => ?_)
      refine if1 ((dt_inT (dp_var 4) (dp_tup (da_cons (dp_lit [112, 114, 117, 110, 101]) (da_cons (dp_lit [98, 97, 114, 101]) (da_cons (dp_lit [116, 117, 114, 110]) da_nil)))) rfl rfl).is (q := false) hz3) (fun h => by cases h) (fun _ => ?_)
      subst ht
      rw [hd]
      exact ds_ret (de_meth m6 (hr.mono (by decide)) (de_var 0 rfl ⟨k, _, rfl, hDa.i, by simp; decide +kernel, dae_cons (de_pure (dp_var 4) (dae_cons (de_dgetK hu (de_fld cl n1 (de_var 0 rfl ⟨k, _, _, rfl, hDa.i, rfl, j, _, .inr (S n), _, rfl, hDa.l, dp_ixL (dp_var 5) dp_int (at0 _ _), lk_tab, dae_cons (de_pure ((dp_slL (dp_var 5) (do_some dp_int) do_none).is (d' := .list ds) (by rw [cut1])) (dae_nil ⟨k, x, z, ds, r, rfl, ok, hT, fin'⟩))⟩)))))⟩))
    cases hT with
    | shw => exact go (by simp [rowsT, S_eq] at k1; obtain ⟨rfl, _⟩ := k1; exact ⟨_, hkz⟩) (by decide) (by decide) (by decide)
    | run v _ _ _ _ => exact go (by simp [rowsT, S_eq] at k1; obtain ⟨rfl, _⟩ := k1; exact ⟨_, hkz⟩) (by decide) (by decide) (by decide)
    | within v _ _ _ _ _ => exact go (by simp [rowsT, S_eq] at k1; obtain ⟨rfl, _⟩ := k1; exact ⟨_, hkz⟩) (by decide) (by decide) (by decide)
    | range v _ _ _ _ _ => exact go (by simp [rowsT, S_eq] at k1; obtain ⟨rfl, _⟩ := k1; exact ⟨_, hkz⟩) (by decide) (by decide) (by decide)
end
end SS
set_option maxHeartbeats 4000000
set_option exponentiation.threshold 300
/-! The walks, twelve: the law's own defs, one: what is drawn. -/
namespace SS
open PySem PySem.Spec PyProof.Rows L2
open SX (S)
/-! a list that was handed in -/
def mkL (ds : List PyData) : PyData := .dict [(.list ds, .none)]
theorem rc_lenF {K : PySem.W.Frag} {ds : List PyData} : RC K (fun xs H Q => ∃ p ys, xs = [.ref p] ∧ (SqL K H p ys ∨ SqT K H p ys) ∧ Q (.int ys.length) H) [mkL ds] (.int ds.length) := fun vs F H sm rs Q q => by
  cases rs with | cons r t => cases t; cases r with | slst h r => exact ⟨_, _, rfl, .inl (sqL_mono sm h), by rw [r.len]; exact q _ F H (.refl sm) (.int _)⟩
theorem dp_lenF {X : Cx} {δ : Dl} {a : Expr} {p0 pos : Pos} {ds : List PyData} (B : Bi X.mg) (h : DP X a δ (mkL ds)) (hg : Gl X "len" := by rfl) (he : starEach [a] X.env = [(false, eval a X.env)] := by rfl) : DP X (.Call (.Name "len" p0) [a] [] pos) δ (.int ds.length) := dp_callB call_len_seq hg B.len PySem.boot_len (da_cons h da_nil he) rc_lenF (by decide) (by decide) he (by rfl)
theorem rd_ixF {K : PySem.W.Frag} {ds : List PyData} {i : Int} {d : PyData} (e : atI ds i = some d) : RD K (rIxL K) (mkL ds) (.int i) d := fun x y F H sm rx ry Q q => by
  cases rx with
  | slst h r =>
    cases ry
    obtain ⟨v, e2, rv⟩ := atI_reps r e
    exact ⟨_, _, i, v, rfl, rfl, sqL_mono sm h, e2, q v F H (.refl sm) rv⟩
theorem dp_ixF {X : Cx} {δ : Dl} {a b : Expr} {pos : Pos} {xs : List PyData} {i : Int} {d : PyData} (ha : DP X a δ (mkL xs)) (hb : DP X b δ (.int i)) (h : atI xs i = some d) (hs : PlainIx b := by exact fun _ _ => rfl) : DP X (.Subscript a b pos) δ d := dp_ix ix_list ha hb (rd_ixF h) hs
/-- what the draws are taken of: at most so many steps were taken -/
def FdO (n : Nat) (c : Ow) : Prop := ∃ g st sp : Int, c = .lst ([PyData.int g, .int st, .int sp].map .dat) ∧ 0 ≤ g ∧ (0 ≤ st ∧ st < 2147483647) ∧ (0 ≤ sp ∧ sp ≤ n)
theorem FdO.mono {n m : Nat} {c : Ow} (h : FdO n c) (hm : n ≤ m) : FdO m c := by
  obtain ⟨g, st, sp, rfl, h1, h2, h3⟩ := h
  exact ⟨g, st, sp, rfl, h1, h2, h3.1, by omega⟩
def S_feed (svs : List SV) (O : Rs) (post : Post) : Prop := ∃ (ns : List Int) (k : Nat), k ≤ 100 ∧ svs = [.dat (mkL (ns.map .int)), .dat (.int k)] ∧ ∀ c, FdO 0 c → post (.ptr O.length) (O ++ [c])
def S_take (b : Int) (e : Nat) (svs : List SV) (O : Rs) (post : Post) : Prop := ∃ (k n : Nat) (M : Int) (c : Ow), svs = [.ptr k, .dat (.int M)] ∧ O[k]? = some c ∧ FdO n c ∧ 1 ≤ M ∧ M ≤ b ∧ n + e ≤ 1000000 ∧ ∀ r c', 0 ≤ r → r < M → FdO (n + e) c' → post (.dat (.int r)) (O.set k c')
theorem mul_small {i j : Int} {a b : Nat} (hi : 0 ≤ i) (hj : 0 ≤ j) (ha : i < 2 ^ a) (hb : j < 2 ^ b) (h : a + b ≤ 134217728) : CMulX i j := by
  refine mulx_ok (a := a) (b := b) ?_ ?_ h
  · have e : ((2 ^ a : Nat) : Int) = 2 ^ a := by norm_cast
    rw [← e] at ha; omega
  · have e : ((2 ^ b : Nat) : Int) = 2 ^ b := by norm_cast
    rw [← e] at hb; omega
section
variable {P : Program} {w : World} {K : PySem.W.Frag} {mg : Str → Option Value} {base : Heap} {C : Addr}
theorem sc_122 : FnScope ["_law_script", "_law_k", "_law_cell", "_law_great"] ["_law_script", "_law_k"] (defScope (top 122)) := ⟨rfl, rfl, rfl, by decide +kernel, rfl, by decide +kernel, by decide +kernel⟩
theorem sc_123 : FnScope ["_law_feed_here", "_law_many", "_law_high", "_law_digit", "_law_step", "_law_mixed"] ["_law_feed_here", "_law_many"] (defScope (top 123)) := ⟨rfl, rfl, rfl, by decide +kernel, rfl, by decide +kernel, by decide +kernel⟩
theorem cal_feed (B : Bi mg) (D : Df K mg "_law_feed" "_law_feed" (top 122) ["_law_script", "_law_k"]) : Cal P w K mg base "_law_feed" 1 ["_law_script", "_law_k"] (spS K S_feed) := by
  refine cal_S0 (N := ["_law_script", "_law_k", "_law_cell", "_law_great"]) D sc_122 (by rintro svs O post ⟨ns, k, _, rfl, _⟩; rfl) (by decide) (fun f cdv A outer sh H E hr svs O post h => ?_)
  obtain ⟨ns, k, hk, rfl, hp⟩ := h
  show DS _ _ [.dat (mkL (ns.map .int)), .dat (.int k), .un, .un] O _ _
  refine set1 2 dp_int ?_
  refine ds_if (mid := fun ρ' O' => ∃ c : Int, ρ' = [.dat (mkL (ns.map .int)), .dat (.int k), .dat (.int c), .un] ∧ O' = O) (dte_pure (dt_lt (dp_var 1) (dp_lenF B (dp_var 0))) ⟨fun h => ?_, fun _ => ds_nil ⟨_, rfl, rfl⟩⟩) ?_
  · have hl : k < ns.length := by have := of_decide_eq_true h; rw [List.length_map] at this; omega
    exact set1 2 (dp_ixF (dp_var 0) (dp_var 1) (atI_nat (by rw [List.getElem?_map, getD_at (z := 0) hl]; rfl))) (ds_nil ⟨_, rfl, rfl⟩)
  rintro ρ' O' ⟨c, rfl, rfl⟩
  refine set1 3 (dp_abs B (dp_var 2)) ?_
  refine ds_if (mid := fun ρ' O2 => ∃ g : Int, 0 ≤ g ∧ ρ' = [.dat (mkL (ns.map .int)), .dat (.int k), .dat (.int c), .dat (.int g)] ∧ O2 = O') (dte_pure (dt_lt (dp_var 3) (dp_pow dp_int dp_int ⟨by decide, by decide, by decide⟩)) ⟨fun h => ?_, fun h => ?_⟩) ?_
  · exact set1 3 dp_int (ds_nil ⟨0, by decide, rfl, rfl⟩)
  · exact ds_nil ⟨_, by split <;> omega, rfl, rfl⟩
  rintro ρ' O2 ⟨g, hg, rfl, rfl⟩
  have m1 := Int.emod_nonneg c (show (2147483423 : Int) ≠ 0 by decide)
  have m2 := Int.emod_lt_of_pos c (show (0 : Int) < 2147483423 by decide)
  have q1 := Int.emod_nonneg (c % 2147483423 * 48271 + 6151 * k + 17) (show (2147483423 : Int) ≠ 0 by decide)
  have q2 := Int.emod_lt_of_pos (c % 2147483423 * 48271 + 6151 * k + 17) (show (0 : Int) < 2147483423 by decide)
  exact ds_ret (de_own (df_lst (da_cons (dp_var 3) (da_cons (dp_mod (dp_add (dp_add (dp_mul (dp_mod (dp_var 2) dp_int (j := 2147483423) (by decide)) (dp_int (n := 48271)) (mul_small (a := 31) (b := 16) m1 (by decide) (by omega) (by decide) (by decide))) (dp_mul (dp_int (n := 6151)) (dp_var 1) (mul_small (a := 13) (b := 8) (by decide) (by omega) (by decide) (by omega) (by decide)))) (dp_int (n := 17))) dp_int (j := 2147483423) (by decide)) (da_cons dp_int da_nil)))) (hp _ ⟨_, _, _, rfl, hg, ⟨q1, by omega⟩, by decide, by decide⟩))
theorem fd_vw {O : Rs} {k : Nat} {g st sp : Int} (h : O[k]? = some (.lst ([PyData.int g, .int st, .int sp].map .dat))) : Vd O (.ptr k) (.list [.int g, .int st, .int sp]) := .ptr h vds_map
theorem take_tail {f : Addr} {cdv : Value} {A : Around} {outer : List Env} {sh : Shared} {H : Hp} {E : XK} {O : Rs} {j n e : Nat} {M : Int} {c : Ow} {post : Post} (hc : O[j]? = some c) (hF : FdO n c) (h1 : 1 ≤ M) (h2 : M ≤ 10 ^ 40) (hn : n + e ≤ 1000000) (he : 1 ≤ e)
    (hp : ∀ r c', 0 ≤ r → r < M → FdO (n + e) c' → post (.dat (.int r)) (O.set j c')) : DS (bX P w K mg base ["_law_feed_here", "_law_many", "_law_high", "_law_digit", "_law_step", "_law_mixed"] "_law_take" (top 123) f cdv A outer sh H E) ((defBody (top 123)).drop 1) [.ptr j, .dat (.int M), .un, .un, .un, .un] O (fun _ O' => post (.dat .none) O') post := by
  obtain ⟨g, st, sp, rfl, hg, ⟨t1, t2⟩, ⟨p1, p2⟩⟩ := hF
  have hj : j < O.length := (List.getElem?_eq_some_iff.mp hc).1
  have hM0 : M ≠ 0 := by omega
  refine ds_ifR (dte_borrow [some (.list [.int g, .int st, .int sp]), some (.int M), none, none, none, none] (.yes (fd_vw hc) (.yes (.dat _) (.no (.no (.no (.no .nil)))))) (dt_gt (dp_ixL (d := .int g) (dp_var 0) dp_int rfl) dp_int) ⟨fun h => ?_, fun h => ?_⟩)
  · have hg0 : 0 < g := of_decide_eq_true h
    have hd : CDivW g M := ⟨by omega, by
      refine Nat.lt_of_lt_of_le ((Nat.log2_lt (by omega)).mpr (show M.natAbs < 2 ^ 140 from ?_)) (by decide)
      have : (10 : Int) ^ 40 < 2 ^ 140 := by decide
      have e : ((2 ^ 140 : Nat) : Int) = 2 ^ 140 := by norm_cast
      rw [← e] at this
      omega⟩
    refine setE 3 (de_borrow [some (.list [.int g, .int st, .int sp]), some (.int M), none, none, none, none] (.yes (fd_vw hc) (.yes (.dat _) (.no (.no (.no (.no .nil)))))) (dp_mod (dp_ixL (d := .int g) (dp_var 0) dp_int rfl) (dp_var 1) (by omega)) rfl ?_)
    refine ds_setitem (de_borrow [some (.list [.int g, .int st, .int sp]), some (.int M), none, some (.int (g % M)), none, none] (.yes (fd_vw hc) (.yes (.dat _) (.no (.yes (.dat _) (.no (.no .nil)))))) (dp_div (dp_ixL (d := .int g) (dp_var 0) dp_int rfl) (dp_var 1) hd) rfl (de_var 0 rfl ⟨j, rfl, de_pure dp_int ⟨0, 0, _, rfl, hc, rfl, ?_⟩⟩))
    refine ret1 (dp_var 3) (hp _ _ (Int.emod_nonneg _ hM0) (Int.emod_lt_of_pos _ (by omega)) ⟨g / M, st, sp, rfl, Int.ediv_nonneg hg (by omega), ⟨t1, t2⟩, p1, by omega⟩)
  · refine setE 4 (de_borrow [some (.list [.int g, .int st, .int sp]), some (.int M), none, none, none, none] (.yes (fd_vw hc) (.yes (.dat _) (.no (.no (.no (.no .nil)))))) (dp_add (dp_ixL (d := .int sp) (dp_var 0) dp_int rfl) dp_int) rfl ?_)
    refine ds_setitem (de_pure (dp_var 4) (de_var 0 rfl ⟨j, rfl, de_pure dp_int ⟨2, 2, _, rfl, hc, rfl, ?_⟩⟩))
    have hc2 : (O.set j (.lst ([PyData.int g, .int st, .int (sp + 1)].map .dat)))[j]? = some (.lst ([PyData.int g, .int st, .int (sp + 1)].map .dat)) := List.getElem?_set_self hj
    show DS _ _ [.ptr j, .dat (.int M), .un, .un, .dat (.int (sp + 1)), .un] (O.set j (.lst ([PyData.int g, .int st, .int (sp + 1)].map .dat))) _ _
    have b1 : (sp + 1) < 2 ^ 20 := by have : (2 : Int) ^ 20 = 1048576 := by decide
                                      omega
    have b2 : (40692 : Int) * (sp + 1) < 2 ^ 36 := by have : (2 : Int) ^ 36 = 68719476736 := by decide
                                                      omega
    refine setE 5 (de_borrow [some (.list [.int g, .int st, .int (sp + 1)]), some (.int M), none, none, some (.int (sp + 1)), none] (.yes (fd_vw hc2) (.yes (.dat _) (.no (.no (.yes (.dat _) (.no .nil)))))) (dp_mod (dp_add (dp_add (dp_ixL (d := .int st) (dp_var 0) dp_int rfl) (dp_mul (dp_mul (dp_int (n := 40692)) (dp_var 4) (mul_small (a := 16) (b := 20) (by decide) (by omega) (by decide) b1 (by decide))) (dp_var 4) (mul_small (a := 36) (b := 20) (by omega) (by omega) b2 b1 (by decide)))) (dp_mul (dp_int (n := 69621)) (dp_var 4) (mul_small (a := 17) (b := 20) (by decide) (by omega) (by decide) b1 (by decide)))) (dp_int (n := 2147483647)) (by decide)) rfl ?_)
    generalize hm1 : (st + 40692 * (sp + 1) * (sp + 1) + 69621 * (sp + 1)) % 2147483647 = m
    have u1 := Int.emod_nonneg (st + 40692 * (sp + 1) * (sp + 1) + 69621 * (sp + 1)) (show (2147483647 : Int) ≠ 0 by decide)
    have u2 := Int.emod_lt_of_pos (st + 40692 * (sp + 1) * (sp + 1) + 69621 * (sp + 1)) (show (0 : Int) < 2147483647 by decide)
    rw [hm1] at u1 u2
    have p31 : (2 : Int) ^ 31 = 2147483648 := by decide
    show DS _ _ [.ptr j, .dat (.int M), .un, .un, .dat (.int (sp + 1)), .dat (.int m)] (O.set j (.lst ([PyData.int g, .int st, .int (sp + 1)].map .dat))) _ _
    refine set1 5 (dp_mod (dp_add (dp_add (dp_mul (dp_var 5) (dp_var 5) (mul_small (a := 31) (b := 31) u1 u1 (by omega) (by omega) (by decide))) (dp_mul (dp_int (n := 39373)) (dp_var 5) (mul_small (a := 16) (b := 31) (by decide) u1 (by decide) (by omega) (by decide)))) (dp_var 4)) (dp_int (n := 2147483579)) (by decide)) ?_
    generalize hm2 : (m * m + 39373 * m + (sp + 1)) % 2147483579 = m'
    have v1 := Int.emod_nonneg (m * m + 39373 * m + (sp + 1)) (show (2147483579 : Int) ≠ 0 by decide)
    have v2 := Int.emod_lt_of_pos (m * m + 39373 * m + (sp + 1)) (show (0 : Int) < 2147483579 by decide)
    rw [hm2] at v1 v2
    refine set1 5 (dp_mod (dp_add (dp_mul (dp_var 5) (dp_var 5) (mul_small (a := 31) (b := 31) v1 v1 (by omega) (by omega) (by decide))) (dp_mul (dp_int (n := 16807)) (dp_var 5) (mul_small (a := 16) (b := 31) (by decide) v1 (by decide) (by omega) (by decide)))) (dp_int (n := 2147483549)) (by decide)) ?_
    refine ret1 (dp_mod (dp_div (dp_var 5) (dp_int (n := 64)) ⟨by decide, by decide⟩) (dp_var 1) (by omega)) (hp _ _ (Int.emod_nonneg _ hM0) (Int.emod_lt_of_pos _ (by omega)) ⟨g, st, sp + 1, rfl, hg, ⟨t1, t2⟩, by omega, by omega⟩)
theorem cal_take0 (B : Bi mg) (D : Df K mg "_law_take" "_law_take" (top 123) ["_law_feed_here", "_law_many"]) : Cal P w K mg base "_law_take" 1 ["_law_feed_here", "_law_many"] (spS K (S_take (10 ^ 7) 1)) := by
  refine cal_S0 (N := ["_law_feed_here", "_law_many", "_law_high", "_law_digit", "_law_step", "_law_mixed"]) D sc_123 (by rintro svs O post ⟨k, n, M, c, rfl, _⟩; rfl) (by decide) (fun f cdv A outer sh H E hr svs O post h => ?_)
  obtain ⟨k, n, M, c, rfl, hc, hF, h1, h2, hn, hp⟩ := h
  show DS _ _ [.ptr k, .dat (.int M), .un, .un, .un, .un] O _ _
  refine if1 (dt_gt (dp_var 1) (dp_pow dp_int dp_int ⟨by decide, by decide, by decide⟩)) (fun h => ?_) (fun _ => ?_)
  · have : (10 : Int) ^ (7 : Int).toNat < M := of_decide_eq_true h
    have e : (10 : Int) ^ (7 : Int).toNat = 10 ^ 7 := rfl
    omega
  · exact take_tail hc hF h1 (Int.le_trans h2 (by decide)) hn (Nat.le_refl _) hp
theorem cal_takeS (B : Bi mg) (D : Df K mg "_law_take" "_law_take" (top 123) ["_law_feed_here", "_law_many"]) {b : Int} {e k : Nat} (hb : 10 ^ 7 ≤ b) (hb2 : (b - 1) * 10 ^ 6 ≤ 10 ^ 40) (he : 1 ≤ e) (c : Cal P w K mg base "_law_take" k ["_law_feed_here", "_law_many"] (spS K (S_take b e))) : Cal P w K mg base "_law_take" (k + 1) ["_law_feed_here", "_law_many"] (spS K (S_take ((b - 1) * 10 ^ 6) (2 * e))) := by
  refine cal_S0 (N := ["_law_feed_here", "_law_many", "_law_high", "_law_digit", "_law_step", "_law_mixed"]) D sc_123 (by rintro svs O post ⟨k, n, M, c, rfl, _⟩; rfl) (by decide) (fun f cdv A outer sh H E hr svs O post h => ?_)
  obtain ⟨j, n, M, x, rfl, hc, hF, h1, h2, hn, hp⟩ := h
  have hj : j < O.length := (List.getElem?_eq_some_iff.mp hc).1
  show DS _ _ [.ptr j, .dat (.int M), .un, .un, .un, .un] O _ _
  have p6 : (10 : Int) ^ (6 : Int).toNat = 1000000 := by decide
  have p7 : (10 : Int) ^ (7 : Int).toNat = 10000000 := by decide
  have p6' : (10 : Int) ^ 6 = 1000000 := by decide
  have p7' : (10 : Int) ^ 7 = 10000000 := by decide
  rw [p6'] at h2 hb2
  rw [p7'] at hb
  refine if1 (dt_gt (dp_var 1) (dp_pow dp_int dp_int ⟨by decide, by decide, by decide⟩)) (fun h => ?_) (fun _ => ?_)
  · have hM : (10 : Int) ^ (7 : Int).toNat < M := of_decide_eq_true h
    rw [p7] at hM
    refine setE 2 (de_call c hr rfl (dae_cons (de_var 0 rfl (dae_cons (de_pure (dp_add (dp_div (dp_var 1) (dp_pow dp_int dp_int ⟨by decide, by decide, by decide⟩) ⟨by decide, by decide⟩) dp_int) (dae_nil ⟨j, n, _, x, rfl, hc, hF, ?_, ?_, by omega, fun r x' r0 r1 hF' => ?_⟩))))))
    · rw [p6]; omega
    · rw [p6]; omega
    · have hc2 : (O.set j x')[j]? = some x' := List.getElem?_set_self hj
      rw [p6] at r1
      refine ds_ret (de_bin op_mod (de_bin op_add (de_pure (dp_mul (dp_var 2) (dp_pow dp_int dp_int ⟨by decide, by decide, by decide⟩) (mul_small (a := 140) (b := 20) r0 (by decide) ?_ (by decide) (by decide))) ⟨_, rfl, de_call c hr (by rfl) (dae_cons (de_var 0 rfl (dae_cons (de_pure (dp_pow dp_int dp_int ⟨by decide, by decide, by decide⟩) (dae_nil ⟨j, n + e, _, x', rfl, hc2, hF', by decide, ?_, by omega, fun r' x'' r0' r1' hF'' => ⟨_, _, rfl, rd_II, _, rfl, de_pure (dp_var 1) ⟨_, _, rfl, rd_CI (C := fun _ j => 0 < j) (by omega), ?_⟩⟩⟩)))))⟩)))
      · have q : (10 : Int) ^ 40 < 2 ^ 140 := by decide
        generalize (2 : Int) ^ 140 = a at q ⊢
        generalize (10 : Int) ^ 40 = a' at q hb2
        omega
      · rw [p6]; omega
      · rw [List.set_set]
        refine hp _ _ (Int.emod_nonneg _ (by omega)) (Int.emod_lt_of_pos _ (by omega)) (hF''.mono (by omega))
  · exact take_tail hc hF h1 (Int.le_trans h2 hb2) hn (by omega) hp
end
end SS
/-! The mathematics, three: pruned. -/
namespace SS
open PySem
theorem getD_some {α : Type} {l : List α} {i : Nat} {z x : α} (h : l[i]? = some x) : l.getD i z = x := by rw [List.getD_eq_getElem?_getD, h]; rfl
theorem getD_of {α : Type} {l : List α} {i : Nat} {z : α} (h : i < l.length) : l[i]? = some (l.getD i z) := by rw [List.getD_eq_getElem?_getD, List.getElem?_eq_getElem h]; rfl
theorem getD_left {α : Type} {l m : List α} {i : Nat} {z : α} (h : i < l.length) : (l ++ m).getD i z = l.getD i z := by
  rw [List.getD_eq_getElem?_getD, List.getD_eq_getElem?_getD, List.getElem?_append_left h]
theorem getD_last {α : Type} {l : List α} {x z : α} : (l ++ [x]).getD l.length z = x := by rw [List.getD_eq_getElem?_getD]; simp
theorem setB {l : List Bool} {i j : Nat} : (l.set i true).getD j false = true ↔ (i = j ∧ i < l.length) ∨ l.getD j false = true := by
  rw [List.getD_eq_getElem?_getD, List.getD_eq_getElem?_getD]
  by_cases h : i = j
  · subst h
    by_cases hl : i < l.length
    · rw [List.getElem?_set_self hl]; simp [hl]
    · rw [List.set_eq_of_length_le (by omega)]; simp [hl]
  · rw [List.getElem?_set_ne h]; simp [h]
theorem setB_mono {l : List Bool} {i j : Nat} (h : l.getD j false = true) : (l.set i true).getD j false = true := setB.mpr (.inr h)
/-- a deed's things stand ahead of it -/
theorem ok_ab {w : Web} (h : okDs (unitRows w.ins) w.deeds) {k : Nat} {d : Deed} (e : w.deeds[k]? = some d) : d.a < w.ins + k ∧ d.b < w.ins + k ∧ k < w.deeds.length := by
  have q := okDs_at h e
  have hl := (List.getElem?_eq_some_iff.mp e).1
  have l : (grow stepR (unitRows w.ins) (w.deeds.take k)).length = w.ins + k := by rw [grow_len, unitRows_len, List.length_take, Nat.min_eq_left (by omega)]
  exact ⟨l ▸ q.1, l ▸ q.2.1, hl⟩
theorem useD_mono {w : Web} {f : List Bool} {k j : Nat} (h : f.getD j false = true) : (useD w f k).getD j false = true := by
  unfold useD
  cases w.deeds[k]? with
  | none => exact h
  | some d =>
    show (if _ then _ else _ : List Bool).getD j false = true
    split
    · exact setB_mono (setB_mono h)
    · exact h
theorem useD_high {w : Web} (ok : okDs (unitRows w.ins) w.deeds) {f : List Bool} {k j : Nat} (hj : w.ins + k ≤ j) : (useD w f k).getD j false = f.getD j false := by
  unfold useD
  cases e : w.deeds[k]? with
  | none => rfl
  | some d =>
    obtain ⟨h1, h2, _⟩ := ok_ab ok e
    show (if _ then _ else _ : List Bool).getD j false = _
    split
    · rw [List.getD_eq_getElem?_getD, List.getElem?_set_ne (by omega), List.getElem?_set_ne (by omega), List.getD_eq_getElem?_getD]
    · rfl
theorem foldD_facts {w : Web} (ok : okDs (unitRows w.ins) w.deeds) : ∀ (n : Nat) (f : List Bool), f.length = w.ins + w.deeds.length →
    (∀ j, f.getD j false = true → ((List.range n).reverse.foldl (useD w) f).getD j false = true) ∧
    (∀ j, w.ins + n ≤ j → ((List.range n).reverse.foldl (useD w) f).getD j false = f.getD j false) ∧
    (∀ k d, k < n → w.deeds[k]? = some d → ((List.range n).reverse.foldl (useD w) f).getD (w.ins + k) false = true → ((List.range n).reverse.foldl (useD w) f).getD d.a false = true ∧ ((List.range n).reverse.foldl (useD w) f).getD d.b false = true)
  | 0, f, _ => ⟨fun j h => h, fun j _ => rfl, fun k d h => by omega⟩
  | n + 1, f, hf => by
    rw [List.range_succ, List.reverse_append]
    show (∀ j, _ → ((List.range n).reverse.foldl (useD w) (useD w f n)).getD j false = true) ∧ (∀ j, _ → ((List.range n).reverse.foldl (useD w) (useD w f n)).getD j false = _) ∧ ∀ k d, _ → _ → ((List.range n).reverse.foldl (useD w) (useD w f n)).getD _ false = true → ((List.range n).reverse.foldl (useD w) (useD w f n)).getD _ false = true ∧ ((List.range n).reverse.foldl (useD w) (useD w f n)).getD _ false = true
    obtain ⟨m1, m2, m3⟩ := foldD_facts ok n (useD w f n) (by rw [useD_len]; exact hf)
    refine ⟨fun j h => m1 j (useD_mono h), fun j hj => by rw [m2 j (by omega), useD_high ok (by omega)], fun k d hk e h => ?_⟩
    by_cases hkn : k < n
    · exact m3 k d hkn e h
    · have : k = n := by omega
      subst this
      rw [m2 _ (by omega), useD_high ok (by omega)] at h
      obtain ⟨h1, h2, h3⟩ := ok_ab ok e
      refine ⟨m1 _ ?_, m1 _ ?_⟩
      · unfold useD; rw [e]
        show (if _ then _ else _ : List Bool).getD _ false = true
        rw [if_pos h]
        exact setB_mono (setB.mpr (.inl ⟨rfl, by omega⟩))
      · unfold useD; rw [e]
        show (if _ then _ else _ : List Bool).getD _ false = true
        rw [if_pos h]
        exact setB.mpr (.inl ⟨rfl, by rw [List.length_set]; omega⟩)
theorem foldO_facts : ∀ (os : List Out) (f : List Bool), (∀ j, f.getD j false = true → (os.foldl useO f).getD j false = true) ∧ ∀ o ∈ os, o.sign ≠ 0 → o.thing < f.length → (os.foldl useO f).getD o.thing false = true
  | [], f => ⟨fun j h => h, fun o h => by cases h⟩
  | p :: os, f => by
    obtain ⟨m1, m2⟩ := foldO_facts os (useO f p)
    have mm : ∀ j, f.getD j false = true → (useO f p).getD j false = true := fun j h => by
      unfold useO; split
      · exact h
      · exact setB_mono h
    refine ⟨fun j h => m1 j (mm j h), fun o ho hs hl => ?_⟩
    rcases List.mem_cons.mp ho with rfl | ho
    · refine m1 _ ?_
      unfold useO; rw [if_neg hs]
      exact setB.mpr (.inl ⟨rfl, hl⟩)
    · exact m2 o ho hs (by rw [useO_len]; exact hl)
theorem used_out {w : Web} (ok : okDs (unitRows w.ins) w.deeds) {o : Out} (ho : o ∈ w.outs) (hs : o.sign ≠ 0) (hl : o.thing < w.ins + w.deeds.length) : w.used.getD o.thing false = true := by
  unfold Web.used
  refine (foldD_facts ok _ _ (by rw [Web.usedO_len])).1 _ ?_
  unfold Web.usedO
  exact (foldO_facts _ _).2 o ho hs (by rw [List.length_replicate]; exact hl)
theorem used_deed {w : Web} (ok : okDs (unitRows w.ins) w.deeds) {k : Nat} {d : Deed} (e : w.deeds[k]? = some d) (h : w.used.getD (w.ins + k) false = true) : w.used.getD d.a false = true ∧ w.used.getD d.b false = true := by
  unfold Web.used at h ⊢
  exact (foldD_facts ok _ _ (by rw [Web.usedO_len])).2.2 k d (ok_ab ok e).2.2 e h
/-! pruned -/
theorem rows_snoc {n : Nat} {ds : List Deed} {d : Deed} : rows n (ds ++ [d]) = rows n ds ++ [stepR (rows n ds) d] := grow_snoc ds d _
theorem okDs_snoc {n : Nat} {ds : List Deed} {d : Deed} (h : okDs (unitRows n) ds) (h2 : okD (rows n ds) d) : okDs (unitRows n) (ds ++ [d]) := (okDs_append _ _ _).mpr ⟨h, h2, trivial⟩
theorem rows_at {w : Web} {k i : Nat} (hi : i < w.ins + k) (hk : k ≤ w.deeds.length) : (rows w.ins (w.deeds.take k)).getD i [] = w.rows.getD i [] := by
  unfold Web.rows rows
  rw [List.getD_eq_getElem?_getD, List.getD_eq_getElem?_getD, grow_keep (ds := w.deeds) (k := k) (by rw [unitRows_len]; exact hi) hk]
structure PI (w : Web) (k : Nat) (an : List Nat) (ds : List Deed) : Prop where
  len : an.length = w.ins + k
  le : ds.length ≤ k
  ok : okDs (unitRows w.ins) ds
  at_ : ∀ i, i < w.ins + k → i < w.ins ∨ w.used.getD i false = true → an.getD i 0 < w.ins + ds.length ∧ (rows w.ins ds).getD (an.getD i 0) [] = w.rows.getD i []
  sh : ∀ d ∈ ds, ∃ e ∈ w.deeds, d.s = e.s ∧ d.t = e.t
theorem pruI {w : Web} (ok : okDs (unitRows w.ins) w.deeds) : ∀ k, k ≤ w.deeds.length → PI w k (w.pruL k).1 (w.pruL k).2
  | 0, _ => by
    unfold Web.pruL
    refine ⟨by simp [List.range_zero], by simp [List.range_zero], trivial, fun i hi h => ?_, fun d hd => by cases hd⟩
    have e : (List.range w.ins).getD i 0 = i := getD_some (by rw [List.getElem?_range (by omega)])
    show (List.range w.ins).getD i 0 < _ ∧ _
    have h2 := rows_at (w := w) (k := 0) (i := i) (by omega) (by omega)
    rw [List.take_zero] at h2
    rw [show ((List.range 0).foldl (pruS w w.used) (List.range w.ins, ([] : List Deed))) = (List.range w.ins, []) from rfl]
    rw [e]
    exact ⟨by omega, h2⟩
  | k + 1, hk => by
    have I := pruI ok k (by omega)
    rw [Web.pruL_succ]
    generalize w.pruL k = acc at I
    obtain ⟨an, ds⟩ := acc
    obtain ⟨d, e⟩ : ∃ d, w.deeds[k]? = some d := ⟨_, List.getElem?_eq_getElem (by omega)⟩
    obtain ⟨h1, h2, h3⟩ := ok_ab ok e
    have I1 := I.len
    have I2 := I.le
    simp only at I1 I2
    have hd := okDs_at ok e
    have hkl : (w.ins + ds.length) = (rows w.ins ds).length := by rw [rows_len]
    unfold pruS
    simp only [e]
    by_cases hu : w.used.getD (w.ins + k) false = true
    · rw [if_pos hu]
      obtain ⟨u1, u2⟩ := used_deed ok e hu
      obtain ⟨a1, a2⟩ := I.at_ d.a h1 (.inr u1)
      obtain ⟨b1, b2⟩ := I.at_ d.b h2 (.inr u2)
      have ea : (an ++ [w.ins + ds.length]).getD d.a 0 = an.getD d.a 0 := getD_left (by omega)
      have eb : (an ++ [w.ins + ds.length]).getD d.b 0 = an.getD d.b 0 := getD_left (by omega)
      rw [ea, eb]
      simp only at a1 a2 b1 b2
      have ra := rows_at (w := w) h1 (by omega : k ≤ w.deeds.length)
      have rb := rows_at (w := w) h2 (by omega : k ≤ w.deeds.length)
      unfold rows at ra rb
      have hn : okD (rows w.ins ds) ⟨d.less, an.getD d.a 0, d.s, an.getD d.b 0, d.t⟩ := by
        refine ⟨by rw [rows_len]; exact a1, by rw [rows_len]; exact b1, hd.2.2.1, hd.2.2.2.1, ?_, ?_⟩
        · have := hd.2.2.2.2.1; rw [ra, ← a2] at this; exact this
        · have := hd.2.2.2.2.2; rw [rb, ← b2] at this; exact this
      have hs : stepR (rows w.ins ds) ⟨d.less, an.getD d.a 0, d.s, an.getD d.b 0, d.t⟩ = w.rows.getD (w.ins + k) [] := by
        have e2 : w.rows.getD (w.ins + k) [] = stepR (grow stepR (unitRows w.ins) (w.deeds.take k)) d := by
          rw [← rows_at (k := k + 1) (by omega) hk]
          unfold rows
          rw [grow_take _ e, show w.ins + k = (grow stepR (unitRows w.ins) (w.deeds.take k)).length by rw [grow_len, unitRows_len, List.length_take, Nat.min_eq_left (by omega)], getD_last]
        rw [e2]
        show List.zipWith (sg d.less) (shR ((rows w.ins ds).getD (an.getD d.a 0) []) d.s) (shR ((rows w.ins ds).getD (an.getD d.b 0) []) d.t) = List.zipWith (sg d.less) (shR ((grow stepR (unitRows w.ins) (w.deeds.take k)).getD d.a []) d.s) (shR ((grow stepR (unitRows w.ins) (w.deeds.take k)).getD d.b []) d.t)
        rw [a2, b2, ra, rb]
      refine ⟨by rw [List.length_append, I1]; rfl, by rw [List.length_append]; show ds.length + 1 ≤ _; omega, okDs_snoc I.ok hn, fun i hi h => ?_, fun x hx => ?_⟩
      · rw [rows_snoc, List.length_append]
        by_cases hi2 : i < w.ins + k
        · obtain ⟨c1, c2⟩ := I.at_ i hi2 h
          rw [getD_left (by omega)]
          simp only at c1 c2
          refine ⟨by show _ < _ + (ds.length + 1); omega, ?_⟩
          rw [getD_left (by rw [rows_len]; omega)]; exact c2
        · have : i = w.ins + k := by omega
          subst this
          rw [← I1, getD_last]
          refine ⟨by show _ < _ + (ds.length + 1); omega, ?_⟩
          rw [hkl, getD_last, hs, I1]
      · rcases List.mem_append.mp hx with q | q
        · exact I.sh x q
        · rw [List.mem_singleton.mp q]; exact ⟨d, List.mem_of_getElem? e, rfl, rfl⟩
    · rw [if_neg hu]
      refine ⟨by rw [List.length_append, I1]; rfl, by show ds.length ≤ _; omega, I.ok, fun i hi h => ?_, I.sh⟩
      by_cases hi2 : i < w.ins + k
      · obtain ⟨c1, c2⟩ := I.at_ i hi2 h
        rw [getD_left (by omega)]
        exact ⟨c1, c2⟩
      · have : i = w.ins + k := by omega
        subst this
        rcases h with h | h
        · omega
        · exact absurd h hu
theorem okO_sign {R : List Row} {o : Out} (h : okO R o) : o = noOut ∨ (o.sign = 1 ∨ o.sign = -1) := by
  rcases h with h | h
  · exact .inl h
  · exact .inr h.2.2.2
theorem pruO_no (an : List Nat) : pruO an noOut = noOut := by unfold pruO noOut; simp
theorem pruO_ok {w : Web} (ok : w.ok) {o : Out} (ho : o ∈ w.outs) : okO w.pruned.rows (pruO (w.pruL w.deeds.length).1 o) ∧ outRow w.pruned.rows (pruO (w.pruL w.deeds.length).1 o) = outRow w.rows o := by
  have I := pruI ok.ds w.deeds.length (Nat.le_refl _)
  have h0 : ∀ R : List Row, 0 < R.length → (∀ r ∈ R, r.length = w.ins) → outRow R noOut = List.replicate w.ins 0 := fun R h1 h2 => by
    unfold outRow shR
    rw [List.map_map]
    have : ((fun x => noOut.sign * x) ∘ fun x => shI x noOut.shift) = fun _ => 0 := by funext x; simp [noOut]
    rw [this, List.map_const', show noOut.thing = 0 from rfl, h2 _ (getD_mem h1)]
  have i1 := ok.i1
  have okp : okDs (unitRows w.ins) (w.pruL w.deeds.length).2 := I.ok
  rcases ok.os o ho with rfl | ⟨h1, h2, h3, h4⟩
  · rw [pruO_no]
    refine ⟨.inl rfl, ?_⟩
    rw [h0 w.pruned.rows (by show 0 < (rows w.ins _).length; rw [rows_len]; omega) (rows_width okp), h0 w.rows (by show 0 < (rows w.ins _).length; rw [rows_len]; omega) (rows_width ok.ds)]
  · have hs : o.sign ≠ 0 := by rcases h4 with h | h <;> omega
    have hl : o.thing < w.ins + w.deeds.length := by
      have : w.rows.length = w.ins + w.deeds.length := rows_len
      omega
    obtain ⟨c1, c2⟩ := I.at_ o.thing hl (.inr (used_out ok.ds ho hs hl))
    have e : pruO (w.pruL w.deeds.length).1 o = ⟨(w.pruL w.deeds.length).1.getD o.thing 0, o.shift, o.sign⟩ := by
      unfold pruO
      have : o.sign.natAbs = 1 := by rcases h4 with h | h <;> rw [h] <;> rfl
      rw [this, Nat.mul_one]
    rw [e]
    have er : w.pruned.rows.getD ((w.pruL w.deeds.length).1.getD o.thing 0) [] = w.rows.getD o.thing [] := c2
    refine ⟨.inr ⟨?_, h2, ?_, h4⟩, ?_⟩
    · show _ < (rows w.ins (w.pruL w.deeds.length).2).length
      rw [rows_len]; exact c1
    · show okR (w.pruned.rows.getD ((w.pruL w.deeds.length).1.getD o.thing 0) []) o.shift
      rw [er]; exact h3
    · unfold outRow
      show (shR (w.pruned.rows.getD ((w.pruL w.deeds.length).1.getD o.thing 0) []) o.shift).map _ = _
      rw [er]
theorem pruned_ok {w : Web} (ok : w.ok) : w.pruned.ok := by
  have I := pruI ok.ds w.deeds.length (Nat.le_refl _)
  refine ⟨ok.i1, ok.i2, Nat.le_trans I.le ok.dl, by show (w.outs.map _).length ≤ 12; rw [List.length_map]; exact ok.ol, I.ok, fun o ho => ?_⟩
  obtain ⟨p, hp, rfl⟩ := List.mem_map.mp ho
  exact (pruO_ok ok hp).1
theorem pruned_rows {w : Web} (ok : w.ok) : w.pruned.outRows = w.outRows := by
  unfold Web.outRows
  show (w.outs.map _).map _ = _
  rw [List.map_map]
  exact List.map_congr_left fun o ho => (pruO_ok ok ho).2
theorem pruned_len {w : Web} (ok : w.ok) : w.pruned.deeds.length ≤ w.deeds.length := (pruI ok.ds w.deeds.length (Nat.le_refl _)).le
theorem pruned_ins {w : Web} : w.pruned.ins = w.ins := rfl
/-- shifts stay small -/
def Near (S : Nat) (w : Web) : Prop := (∀ d ∈ w.deeds, d.s.natAbs ≤ S ∧ d.t.natAbs ≤ S) ∧ ∀ o ∈ w.outs, o.shift.natAbs ≤ S
theorem pruned_near {w : Web} {S : Nat} (ok : w.ok) (h : Near S w) : Near S w.pruned := by
  refine ⟨fun d hd => ?_, fun o ho => ?_⟩
  · obtain ⟨e, he, h1, h2⟩ := (pruI ok.ds w.deeds.length (Nat.le_refl _)).sh d hd
    rw [h1, h2]; exact h.1 e he
  · obtain ⟨p, hp, rfl⟩ := List.mem_map.mp ho
    exact h.2 p hp
end SS
/-! The mathematics, four: parts and what they are worth. -/
namespace SS
open PySem
theorem p2pos (n : Nat) : (0 : Int) < 2 ^ n := Int.pow_pos (by decide)
theorem p2ne (n : Nat) : (2 : Int) ^ n ≠ 0 := Int.ne_of_gt (p2pos n)
/-- shifting, told without division -/
theorem shI_iff {x a y : Int} {P : Nat} (hP : 0 ≤ P + a) : (okS x a ∧ shI x a = y) ↔ x * 2 ^ ((P : Int) + a).toNat = y * 2 ^ P := by
  rw [okS_iff]
  unfold shI
  by_cases ha : 0 ≤ a
  · rw [if_pos ha, show ((P : Int) + a).toNat = a.toNat + P by omega, Int.pow_add, ← Int.mul_assoc]
    constructor
    · rintro ⟨_, h⟩; rw [h]
    · intro h; exact ⟨.inl ha, Int.eq_of_mul_eq_mul_right (p2ne P) h⟩
  · rw [if_neg ha]
    have e : (2 : Int) ^ P = 2 ^ (-a).toNat * 2 ^ ((P : Int) + a).toNat := by rw [← Int.pow_add]; congr 1; omega
    rw [e, ← Int.mul_assoc]
    constructor
    · rintro ⟨h | h, h2⟩
      · exact absurd h ha
      · rw [← h2, Int.ediv_mul_cancel h]
    · intro h
      have h3 := Int.eq_of_mul_eq_mul_right (p2ne _) h
      refine ⟨.inr ⟨y, by rw [h3, Int.mul_comm]⟩, ?_⟩
      rw [h3, Int.mul_ediv_cancel _ (p2ne _)]
theorem shI_comp {x a b : Int} (h1 : okS x a) (h2 : okS (shI x a) b) : okS x (a + b) ∧ shI x (a + b) = shI (shI x a) b := by
  have e1 := (shI_iff (x := x) (a := a) (y := shI x a) (P := a.natAbs) (by omega)).mp ⟨h1, rfl⟩
  have e2 := (shI_iff (x := shI x a) (a := b) (y := shI (shI x a) b) (P := b.natAbs) (by omega)).mp ⟨h2, rfl⟩
  refine (shI_iff (P := a.natAbs + b.natAbs) (by omega)).mpr ?_
  have e : ((((a.natAbs + b.natAbs : Nat) : Int)) + (a + b)).toNat = ((a.natAbs : Int) + a).toNat + ((b.natAbs : Int) + b).toNat := by omega
  rw [e, Int.pow_add, ← Int.mul_assoc, e1, Int.mul_right_comm, e2, Int.mul_assoc, Int.pow_add, Int.mul_comm (2 ^ a.natAbs)]
theorem okS_neg {x s : Int} : okS (-x) s ↔ okS x s := by
  rw [okS_iff, okS_iff, Int.dvd_neg]
theorem shI_neg {x s : Int} (h : okS x s) : shI (-x) s = -shI x s := by
  have := shI_mul (c := -1) h
  rw [show x * -1 = -x by omega] at this
  rw [this]; omega
theorem pm_mul {g x : Int} (h : g = 1 ∨ g = -1) : g * x = x ∨ g * x = -x := by
  rcases h with rfl | rfl
  · left; omega
  · right; omega
theorem okS_pm {g x s : Int} (h : g = 1 ∨ g = -1) : okS (g * x) s ↔ okS x s := by
  rcases pm_mul (x := x) h with e | e <;> rw [e]
  exact okS_neg
theorem shI_pm {g x s : Int} (h : g = 1 ∨ g = -1) (hx : okS x s) : shI (g * x) s = g * shI x s := by
  rcases h with rfl | rfl
  · rw [Int.one_mul, Int.one_mul]
  · rw [show -1 * x = -x by omega, shI_neg hx]; omega
theorem shI_none {x : Int} : shI x 0 = x := by unfold shI; simp
/-! what a part is worth -/
structure Pt (R : List Row) (p : Out) (r : Row) : Prop where
  ok : okO R p
  val : outRow R p = r
theorem okO_zero {R : List Row} {p : Out} (h : okO R p) (hs : p.sign = 0) : p = noOut := by
  rcases h with h | h
  · exact h
  · rcases h.2.2.2 with q | q <;> omega
theorem outRow_noOut {R : List Row} {n : Nat} (hR : ∀ r ∈ R, r.length = n) (h0 : 0 < R.length) : outRow R noOut = List.replicate n 0 := by
  unfold outRow shR
  rw [List.map_map]
  have : ((fun x => noOut.sign * x) ∘ fun x => shI x noOut.shift) = fun _ => 0 := by funext x; simp [noOut]
  rw [this, List.map_const', show noOut.thing = 0 from rfl, hR _ (getD_mem h0)]
theorem Pt.len {R : List Row} {p : Out} {r : Row} {n : Nat} (h : Pt R p r) (hR : ∀ r ∈ R, r.length = n) (h0 : 0 < R.length) : r.length = n := by
  rcases h.ok with q | q
  · rw [← h.val, q, outRow_noOut hR h0, List.length_replicate]
  · rw [← h.val]
    unfold outRow shR
    rw [List.length_map, List.length_map, hR _ (getD_mem q.1)]
theorem Pt.lift {R : List Row} {p : Out} {r : Row} {s : Int} (h : Pt R p r) (hs : okR r s) (hb : p.sign ≠ 0 → -4000 ≤ p.shift + s ∧ p.shift + s ≤ 4000) : Pt R (liftP p s) (shR r s) := by
  rcases h.ok with q | ⟨q1, q2, q3, q4⟩
  · subst q
    refine ⟨.inl (by simp [liftP, noOut]), ?_⟩
    rw [show liftP noOut s = noOut by simp [liftP, noOut], h.val]
    rw [← h.val]
    unfold outRow shR
    rw [List.map_map, List.map_map]
    refine List.map_congr_left fun x _ => ?_
    show noOut.sign * shI x noOut.shift = shI (noOut.sign * shI x noOut.shift) s
    rw [show noOut.sign = 0 from rfl, Int.zero_mul, shI_zero]
  · have hsn : p.sign ≠ 0 := by rcases q4 with h | h <;> omega
    have e : liftP p s = ⟨p.thing, p.shift + s, p.sign⟩ := by unfold liftP; rw [if_neg hsn]
    rw [e]
    have key : ∀ x ∈ R.getD p.thing [], okS x (p.shift + s) ∧ p.sign * shI x (p.shift + s) = shI (p.sign * shI x p.shift) s := fun x hx => by
      have h1 : okS (p.sign * shI x p.shift) s := hs _ (by rw [← h.val]; exact List.mem_map.mpr ⟨_, List.mem_map.mpr ⟨x, hx, rfl⟩, rfl⟩)
      have h2 := (okS_pm q4).mp h1
      obtain ⟨c1, c2⟩ := shI_comp (q3 x hx) h2
      exact ⟨c1, by rw [c2, shI_pm q4 h2]⟩
    refine ⟨.inr ⟨q1, hb hsn, fun x hx => (key x hx).1, q4⟩, ?_⟩
    rw [← h.val]
    unfold outRow shR
    rw [List.map_map, List.map_map, List.map_map]
    exact List.map_congr_left fun x hx => (key x hx).2
theorem Pt.sign {R : List Row} {p : Out} {r : Row} {s : Int} {n : Nat} (h : Pt R p r) (hR : ∀ r ∈ R, r.length = n) (h0 : 0 < R.length) (hs : s = 0 ∨ s = 1 ∨ s = -1) : Pt R (signP p s) (r.map (s * ·)) := by
  rcases hs with rfl | rfl | rfl
  · refine ⟨.inl (by simp [signP]), ?_⟩
    rw [show signP p 0 = noOut by simp [signP], outRow_noOut hR h0]
    have : (fun x : Int => 0 * x) = fun _ => 0 := by funext x; simp
    rw [this, List.map_const', h.len hR h0]
  · refine ⟨by rw [show signP p 1 = p by simp [signP]]; exact h.ok, ?_⟩
    rw [show signP p 1 = p by simp [signP], h.val]
    have : (fun x : Int => 1 * x) = id := by funext x; simp
    rw [this, List.map_id]
  · have e : signP p (-1) = ⟨p.thing, p.shift, -p.sign⟩ := by simp [signP]
    rw [e]
    rcases h.ok with q | ⟨q1, q2, q3, q4⟩
    · subst q
      refine ⟨.inl rfl, ?_⟩
      show outRow R noOut = _
      rw [← h.val]
      unfold outRow
      rw [List.map_map]
      refine List.map_congr_left fun x _ => ?_
      show noOut.sign * x = -1 * (noOut.sign * x)
      simp [noOut]
    · refine ⟨.inr ⟨q1, q2, q3, ?_⟩, ?_⟩
      · show -p.sign = 1 ∨ -p.sign = -1
        rcases q4 with h | h <;> omega
      · rw [← h.val]
        unfold outRow
        rw [List.map_map]
        refine List.map_congr_left fun x _ => ?_
        show -p.sign * x = -1 * (p.sign * x)
        rw [← Int.mul_assoc]; congr 1; omega
theorem rows_ext {n : Nat} {ds es : List Deed} {i : Nat} (h : i < (rows n ds).length) : (rows n (ds ++ es)).getD i [] = (rows n ds).getD i [] := by
  unfold rows at h ⊢
  rw [grow_append, List.getD_eq_getElem?_getD, grow_get es _ (List.getElem?_eq_getElem h), List.getD_eq_getElem?_getD, List.getElem?_eq_getElem h]
theorem Pt.ext {n : Nat} {ds es : List Deed} {p : Out} {r : Row} (h : Pt (rows n ds) p r) (h0 : 0 < n) : Pt (rows n (ds ++ es)) p r := by
  have e : ∀ i, i < (rows n ds).length → outRow (rows n (ds ++ es)) ⟨i, p.shift, p.sign⟩ = outRow (rows n ds) ⟨i, p.shift, p.sign⟩ := fun i hi => by
    unfold outRow
    show (shR ((rows n (ds ++ es)).getD i []) _).map _ = (shR ((rows n ds).getD i []) _).map _
    rw [rows_ext hi]
  rcases h.ok with q | ⟨q1, q2, q3, q4⟩
  · subst q
    exact ⟨.inl rfl, by rw [← h.val]; exact e 0 (by rw [rows_len]; omega)⟩
  · refine ⟨.inr ⟨by rw [rows_len, List.length_append] at *; omega, q2, by rw [rows_ext q1]; exact q3, q4⟩, by rw [← h.val]; exact e p.thing q1⟩
theorem zip_zeroL : ∀ {r : Row} {n : Nat}, r.length = n → List.zipWith (· + ·) (List.replicate n (0 : Int)) r = r
  | [], 0, _ => rfl
  | x :: r, n + 1, h => by rw [List.replicate_succ, List.zipWith_cons_cons, zip_zeroL (by simpa using h), Int.zero_add]
theorem zip_zeroR : ∀ {r : Row} {n : Nat}, r.length = n → List.zipWith (· + ·) r (List.replicate n (0 : Int)) = r
  | [], 0, _ => rfl
  | x :: r, n + 1, h => by rw [List.replicate_succ, List.zipWith_cons_cons, zip_zeroR (by simpa using h), Int.add_zero]
theorem zip_maps {f g : Int → Int} {h : Int → Int → Int} {k : Int → Int} {F : Int → Int → Int} (e : ∀ x y, F (f x) (g y) = k (h x y)) : ∀ (x y : Row), List.zipWith F (x.map f) (y.map g) = (List.zipWith h x y).map k
  | [], _ => by simp
  | _ :: _, [] => by simp
  | a :: x, b :: y => by simp [e, zip_maps e x y]
/-- what the sum of two parts is made of -/
inductive SumK (n : Nat) (ds : List Deed) (p q : Out) : List Deed × Out → Prop
  | l : p.sign = 0 → SumK n ds p q (ds, q)
  | r : p.sign ≠ 0 → q.sign = 0 → SumK n ds p q (ds, p)
  | s (g : Int) : p.sign ≠ 0 → q.sign ≠ 0 → p.sign = q.sign → g = p.sign → SumK n ds p q (ds ++ [⟨false, p.thing, p.shift, q.thing, q.shift⟩], ⟨n + ds.length, 0, g⟩)
  | d : p.sign = 1 → q.sign ≠ 0 → p.sign ≠ q.sign → SumK n ds p q (ds ++ [⟨true, p.thing, p.shift, q.thing, q.shift⟩], ⟨n + ds.length, 0, 1⟩)
  | e : p.sign ≠ 0 → p.sign ≠ 1 → q.sign ≠ 0 → p.sign ≠ q.sign → SumK n ds p q (ds ++ [⟨true, q.thing, q.shift, p.thing, p.shift⟩], ⟨n + ds.length, 0, 1⟩)
theorem sumK {n : Nat} {ds : List Deed} {p q : Out} : SumK n ds p q (sumP n ds p q) := by
  unfold sumP
  split
  · exact .l ‹_›
  · split
    · exact .r ‹_› ‹_›
    · split
      · exact .s _ ‹_› ‹_› ‹_› rfl
      · split
        · exact .d ‹_› ‹_› ‹_›
        · exact .e ‹_› ‹_› ‹_› ‹_›
theorem Pt.thing {R : List Row} {p : Out} {r : Row} (h : Pt R p r) (hs : p.sign ≠ 0) : p.thing < R.length ∧ (-4000 ≤ p.shift ∧ p.shift ≤ 4000) ∧ okR (R.getD p.thing []) p.shift ∧ (p.sign = 1 ∨ p.sign = -1) := by
  rcases h.ok with q | q
  · subst q; exact absurd rfl hs
  · exact q
theorem new_ok {n : Nat} {ds : List Deed} {p q : Out} {r1 r2 : Row} (b : Bool) (ok : okDs (unitRows n) ds) (h1 : Pt (rows n ds) p r1) (h2 : Pt (rows n ds) q r2) (hp : p.sign ≠ 0) (hq : q.sign ≠ 0) : okDs (unitRows n) (ds ++ [⟨b, p.thing, p.shift, q.thing, q.shift⟩]) := by
  obtain ⟨a1, a2, a3, a4⟩ := h1.thing hp
  obtain ⟨b1, b2, b3, b4⟩ := h2.thing hq
  exact okDs_snoc ok ⟨a1, b1, a2, b2, a3, b3⟩
theorem new_pt {n : Nat} {ds : List Deed} {d : Deed} {g : Int} (hg : g = 1 ∨ g = -1) : Pt (rows n (ds ++ [d])) ⟨n + ds.length, 0, g⟩ ((stepR (rows n ds) d).map (g * ·)) := by
  have e : (rows n (ds ++ [d])).getD (n + ds.length) [] = stepR (rows n ds) d := by
    rw [rows_snoc, show n + ds.length = (rows n ds).length by rw [rows_len], getD_last]
  refine ⟨.inr ⟨by rw [rows_len, List.length_append]; show n + ds.length < _ + (_ + 1); omega, ⟨(by decide : (-4000 : Int) ≤ 0), (by decide : (0 : Int) ≤ 4000)⟩, fun x _ => .inl (Int.le_refl 0), hg⟩, ?_⟩
  unfold outRow
  show (shR ((rows n (ds ++ [d])).getD (n + ds.length) []) 0).map _ = _
  rw [e]
  have : shR (stepR (rows n ds) d) 0 = stepR (rows n ds) d := by
    unfold shR
    conv => rhs; rw [← List.map_id (stepR (rows n ds) d)]
    exact List.map_congr_left fun x _ => shI_none
  rw [this]
theorem Pt.sum {n : Nat} {ds : List Deed} {p q : Out} {r1 r2 : Row} (h0 : 0 < n) (ok : okDs (unitRows n) ds) (h1 : Pt (rows n ds) p r1) (h2 : Pt (rows n ds) q r2) :
    okDs (unitRows n) (sumP n ds p q).1 ∧ Pt (rows n (sumP n ds p q).1) (sumP n ds p q).2 (List.zipWith (· + ·) r1 r2) := by
  have hR := rows_width ok
  have hl : 0 < (rows n ds).length := by rw [rows_len]; omega
  have K := sumK (n := n) (ds := ds) (p := p) (q := q)
  generalize sumP n ds p q = z at K
  cases K with
  | l hp =>
    refine ⟨ok, ?_⟩
    have e := okO_zero h1.ok hp
    rw [← h1.val, e, outRow_noOut hR hl, zip_zeroL (h2.len hR hl)]; exact h2
  | r hp hq =>
    refine ⟨ok, ?_⟩
    have e := okO_zero h2.ok hq
    rw [← h2.val, e, outRow_noOut hR hl, zip_zeroR (h1.len hR hl)]; exact h1
  | s g hp hq hs hg =>
    refine ⟨new_ok false ok h1 h2 hp hq, ?_⟩
    subst hg
    have c := new_pt (n := n) (ds := ds) (d := ⟨false, p.thing, p.shift, q.thing, q.shift⟩) (h1.thing hp).2.2.2
    refine ⟨c.ok, c.val.trans ?_⟩
    rw [← h1.val, ← h2.val]
    unfold outRow stepR
    rw [← hs, zip_maps (h := sg false) (k := (p.sign * ·)) (F := (· + ·))]
    intro x y; show p.sign * x + p.sign * y = p.sign * (x + y); rw [Int.mul_add]
  | d hp hq hs =>
    have hp0 : p.sign ≠ 0 := by omega
    have hq1 : q.sign = -1 := by rcases (h2.thing hq).2.2.2 with h | h <;> omega
    refine ⟨new_ok true ok h1 h2 hp0 hq, ?_⟩
    have c := new_pt (n := n) (ds := ds) (d := ⟨true, p.thing, p.shift, q.thing, q.shift⟩) (g := 1) (.inl rfl)
    refine ⟨c.ok, c.val.trans ?_⟩
    rw [← h1.val, ← h2.val]
    unfold outRow stepR
    rw [hp, hq1, zip_maps (h := sg true) (k := (1 * ·)) (F := (· + ·))]
    intro x y; show 1 * x + -1 * y = 1 * (x - y); omega
  | e hp hp1 hq hs =>
    have hp2 : p.sign = -1 := by rcases (h1.thing hp).2.2.2 with h | h <;> omega
    have hq1 : q.sign = 1 := by rcases (h2.thing hq).2.2.2 with h | h <;> omega
    refine ⟨new_ok true ok h2 h1 hq hp, ?_⟩
    have c := new_pt (n := n) (ds := ds) (d := ⟨true, q.thing, q.shift, p.thing, p.shift⟩) (g := 1) (.inl rfl)
    refine ⟨c.ok, c.val.trans ?_⟩
    rw [← h1.val, ← h2.val]
    unfold outRow stepR
    rw [hp2, hq1, List.zipWith_comm, zip_maps (h := fun x y => sg true y x) (k := (1 * ·)) (F := (· + ·))]
    intro x y; show -1 * x + 1 * y = 1 * (y - x); omega
theorem sum_keep {n : Nat} {ds : List Deed} {p q : Out} : ∃ es, (sumP n ds p q).1 = ds ++ es := by
  have K := sumK (n := n) (ds := ds) (p := p) (q := q)
  generalize sumP n ds p q = z at K
  cases K with
  | l => exact ⟨[], by simp⟩
  | r => exact ⟨[], by simp⟩
  | s => exact ⟨_, rfl⟩
  | d => exact ⟨_, rfl⟩
  | e => exact ⟨_, rfl⟩
end SS
/-! The mathematics, five: forms of rows; bare. -/
namespace SS
open PySem
theorem tz_eq : ∀ (a m : Nat), tzN (2 ^ a * (2 * m + 1)) = a
  | 0, m => by rw [tzN, dif_neg (by omega), if_pos (by omega)]
  | a + 1, m => by
    have e : 2 ^ (a + 1) * (2 * m + 1) = 2 * (2 ^ a * (2 * m + 1)) := by rw [Nat.pow_succ, Nat.mul_comm (2 ^ a) 2, Nat.mul_assoc]
    have hp : 0 < 2 ^ a * (2 * m + 1) := Nat.mul_pos (Nat.pow_pos (by decide)) (by omega)
    rw [tzN, e, dif_neg (by omega), if_neg (by omega), Nat.mul_div_cancel_left _ (by decide), tz_eq a m]
theorem tz_scale {x t : Int} (h0 : x ≠ 0) (h : okS x t) : shI x t ≠ 0 ∧ ((tzN (shI x t).natAbs : Nat) : Int) = (tzN x.natAbs : Nat) + t ∧ (shI x t < 0 ↔ x < 0) := by
  have e := (shI_iff (x := x) (a := t) (y := shI x t) (P := t.natAbs) (by omega)).mp ⟨h, rfl⟩
  generalize shI x t = y at e
  have hy : y ≠ 0 := fun q => by
    rw [q, Int.zero_mul] at e
    rcases Int.mul_eq_zero.mp e with q | q
    · exact h0 q
    · exact p2ne _ q
  have en : x.natAbs * 2 ^ ((t.natAbs : Int) + t).toNat = y.natAbs * 2 ^ t.natAbs := by
    have := congrArg Int.natAbs e
    rw [Int.natAbs_mul, Int.natAbs_mul, Int.natAbs_pow, Int.natAbs_pow] at this
    exact this
  obtain ⟨m, hm⟩ := tz_odd x.natAbs (by omega)
  obtain ⟨m', hm'⟩ := tz_odd y.natAbs (by omega)
  generalize tzN x.natAbs = a at hm
  generalize tzN y.natAbs = b at hm'
  refine ⟨hy, ?_, ?_⟩
  · rw [hm, hm', Nat.mul_right_comm, ← Nat.pow_add, Nat.mul_right_comm, ← Nat.pow_add] at en
    have := congrArg tzN en
    rw [tz_eq, tz_eq] at this
    omega
  · have h1 := p2pos ((t.natAbs : Int) + t).toNat
    have h2 := p2pos t.natAbs
    constructor
    · intro hn
      have : y * 2 ^ t.natAbs < 0 := Int.mul_neg_of_neg_of_pos hn h2
      rw [← e] at this
      rcases Int.lt_or_le x 0 with q | q
      · exact q
      · have := Int.mul_nonneg q (Int.le_of_lt h1); omega
    · intro hn
      have : x * 2 ^ ((t.natAbs : Int) + t).toNat < 0 := Int.mul_neg_of_neg_of_pos hn h1
      rw [e] at this
      rcases Int.lt_or_le y 0 with q | q
      · exact q
      · have := Int.mul_nonneg q (Int.le_of_lt h2); omega
theorem fm_tz {n : Int} (h : n ≠ 0) : (coreP n).2.1 = (tzN n.natAbs : Nat) := by unfold coreP; rw [if_neg h]
theorem fm_sg {n : Int} (h : n ≠ 0) : (coreP n).2.2 = if n < 0 then -1 else 1 := by unfold coreP; rw [if_neg h]
theorem fm_nz {r : Row} {x : Int} (h : x ∈ nz r) : x ∈ r ∧ x ≠ 0 := by
  unfold nz at h
  obtain ⟨h1, h2⟩ := List.mem_filter.mp h
  exact ⟨h1, of_decide_eq_true h2⟩
theorem fm_dvd (n : Int) : (2 : Int) ^ tzN n.natAbs ∣ n := by
  by_cases h : n = 0
  · subst h; exact Int.dvd_zero _
  · obtain ⟨m, hm⟩ := tz_odd n.natAbs (by omega)
    rw [← Int.natAbs_dvd_natAbs, Int.natAbs_pow]
    exact ⟨_, hm⟩
theorem fm_S {r : Row} (h : nz r ≠ []) : (∃ x ∈ nz r, formS r = (tzN x.natAbs : Nat)) ∧ ∀ x ∈ nz r, formS r ≤ (tzN x.natAbs : Nat) := by
  unfold formS
  have hm : (nz r).map (fun n => (coreP n).2.1) ≠ [] := fun q => h (List.map_eq_nil_iff.mp q)
  obtain ⟨h1, h2⟩ := minL_mem hm
  constructor
  · obtain ⟨x, hx, e⟩ := List.mem_map.mp h1
    exact ⟨x, hx, by rw [← e, fm_tz (fm_nz hx).2]⟩
  · intro x hx
    rw [← fm_tz (fm_nz hx).2]
    exact h2 _ (List.mem_map.mpr ⟨x, hx, rfl⟩)
theorem fm_S0 {r : Row} (h : nz r ≠ []) : 0 ≤ formS r := by
  obtain ⟨x, _, e⟩ := (fm_S h).1
  rw [e]; omega
theorem fm_G {r : Row} (h : nz r ≠ []) : formG r = 1 ∨ formG r = -1 := by
  unfold formG
  cases e : nz r with
  | nil => exact absurd e h
  | cons n l =>
    show (coreP n).2.2 = 1 ∨ (coreP n).2.2 = -1
    rw [fm_sg (fm_nz (r := r) (by rw [e]; exact List.mem_cons_self)).2]
    split <;> simp
theorem fm_div {r : Row} (h : nz r ≠ []) {x : Int} (hx : x ∈ r) : (2 : Int) ^ (formS r).toNat ∣ x := by
  by_cases h0 : x = 0
  · subst h0; exact Int.dvd_zero _
  · have h1 := (fm_S h).2 x (by unfold nz; exact List.mem_filter.mpr ⟨hx, decide_eq_true h0⟩)
    exact Int.dvd_trans (by
      rw [show tzN x.natAbs = (formS r).toNat + (tzN x.natAbs - (formS r).toNat) by have := fm_S0 h; omega, Int.pow_add]
      exact Int.dvd_mul_right _ _) (fm_dvd x)
/-- a row by its form -/
theorem fm_eq {r : Row} (h : nz r ≠ []) {x : Int} (hx : x ∈ r) : formG r * ((formG r * x) / 2 ^ (formS r).toNat * 2 ^ (formS r).toNat) = x := by
  rw [Int.ediv_mul_cancel (Int.dvd_mul_of_dvd_right (fm_div h hx)), ← Int.mul_assoc]
  rcases fm_G h with e | e <;> rw [e] <;> omega
theorem fm_row {r : Row} (h : nz r ≠ []) : r = (formN r).map fun y => formG r * (y * 2 ^ (formS r).toNat) := by
  unfold formN
  rw [List.map_map]
  conv => lhs; rw [← List.map_id r]
  exact List.map_congr_left fun x hx => (fm_eq h hx).symm
theorem minL_add {t : Int} : ∀ {l : List Int}, l ≠ [] → minL (l.map (· + t)) = minL l + t
  | [], h => absurd rfl h
  | [x], _ => rfl
  | x :: y :: l, _ => by
    have := minL_add (t := t) (l := y :: l) (by simp)
    rw [List.map_cons] at this
    show (if x + t ≤ minL ((y + t) :: l.map (· + t)) then x + t else minL ((y + t) :: l.map (· + t))) = (if x ≤ minL (y :: l) then x else minL (y :: l)) + t
    rw [this]
    split <;> split <;> omega
/-- a row shifted and signed has the same form -/
theorem fm_scale {r : Row} {t g : Int} (hg : g = 1 ∨ g = -1) (ok : okR r t) (h : nz r ≠ []) : nz (r.map fun x => g * shI x t) ≠ [] ∧ formN (r.map fun x => g * shI x t) = formN r ∧ formS (r.map fun x => g * shI x t) = formS r + t ∧ formG (r.map fun x => g * shI x t) = g * formG r := by
  have hz : ∀ x ∈ r, (g * shI x t ≠ 0 ↔ x ≠ 0) := fun x hx => by
    constructor
    · intro q e; subst e; rw [shI_zero, Int.mul_zero] at q; exact q rfl
    · intro q e
      have := (tz_scale q (ok x hx)).1
      rcases Int.mul_eq_zero.mp e with e | e
      · omega
      · exact this e
  have en : nz (r.map fun x => g * shI x t) = (nz r).map fun x => g * shI x t := by
    unfold nz
    rw [List.filter_map]
    congr 1
    refine List.filter_congr fun x hx => ?_
    show decide (g * shI x t ≠ 0) = decide (x ≠ 0)
    exact decide_eq_decide.mpr (hz x hx)
  have h1 : nz (r.map fun x => g * shI x t) ≠ [] := by rw [en]; exact fun q => h (List.map_eq_nil_iff.mp q)
  have hab : ∀ y : Int, (g * y).natAbs = y.natAbs := fun y => by rcases pm_mul (x := y) hg with e | e <;> rw [e]; exact Int.natAbs_neg y
  have hS : formS (r.map fun x => g * shI x t) = formS r + t := by
    unfold formS
    rw [en, List.map_map, ← minL_add (fun q => h (List.map_eq_nil_iff.mp q)), List.map_map]
    congr 1
    refine List.map_congr_left fun x hx => ?_
    obtain ⟨m1, m2⟩ := fm_nz hx
    show (coreP (g * shI x t)).2.1 = (coreP x).2.1 + t
    rw [fm_tz ((hz x m1).mpr m2), fm_tz m2, hab, (tz_scale m2 (ok x m1)).2.1]
  have hG : formG (r.map fun x => g * shI x t) = g * formG r := by
    unfold formG
    rw [en]
    cases e : nz r with
    | nil => exact absurd e h
    | cons n l =>
      obtain ⟨m1, m2⟩ := fm_nz (r := r) (x := n) (by rw [e]; exact List.mem_cons_self)
      show (coreP (g * shI n t)).2.2 = g * (coreP n).2.2
      rw [fm_sg ((hz n m1).mpr m2), fm_sg m2]
      obtain ⟨c1, _, c3⟩ := tz_scale m2 (ok n m1)
      rcases hg with rfl | rfl
      · by_cases hn : n < 0
        · rw [if_pos (by rw [Int.one_mul]; exact c3.mpr hn), if_pos hn]; rfl
        · rw [if_neg (by rw [Int.one_mul]; exact fun q => hn (c3.mp q)), if_neg hn]; rfl
      · by_cases hn : n < 0
        · have := c3.mpr hn
          rw [if_neg (by omega), if_pos hn]; rfl
        · have : ¬ shI n t < 0 := fun q => hn (c3.mp q)
          rw [if_pos (by omega), if_neg hn]; rfl
  refine ⟨h1, ?_, hS, hG⟩
  have hS0 : 0 ≤ formS r + t := by rw [← hS]; exact fm_S0 h1
  unfold formN
  rw [hS, hG, List.map_map]
  refine List.map_congr_left fun x hx => ?_
  show g * formG r * (g * shI x t) / 2 ^ (formS r + t).toNat = formG r * x / 2 ^ (formS r).toNat
  have hgg : g * formG r * (g * shI x t) = shI (formG r * x) t := by
    rw [shI_pm (fm_G h) (ok x hx), Int.mul_assoc, Int.mul_left_comm (formG r) g, ← Int.mul_assoc, show g * g = 1 by rcases hg with e | e <;> rw [e] <;> rfl, Int.one_mul]
  rw [hgg]
  obtain ⟨N, hN⟩ : (2 : Int) ^ (formS r).toNat ∣ formG r * x := Int.dvd_mul_of_dvd_right (fm_div h hx)
  have h2 : shI (formG r * x) t = N * 2 ^ (formS r + t).toNat := by
    refine ((shI_iff (P := t.natAbs) (by omega)).mpr ?_).2
    rw [hN, Int.mul_comm _ N, Int.mul_assoc, Int.mul_assoc, ← Int.pow_add, ← Int.pow_add]
    congr 2
    have := fm_S0 h
    omega
  rw [h2, hN, Int.mul_ediv_cancel _ (p2ne _), Int.mul_ediv_cancel_left _ (p2ne _)]
theorem fm_bound {r : Row} {B : Nat} (h : nz r ≠ []) (hb : ∀ x ∈ r, x.natAbs ≤ 2 ^ B) : formS r ≤ B := by
  obtain ⟨x, hx, e⟩ := (fm_S h).1
  obtain ⟨m1, m2⟩ := fm_nz hx
  rw [e]
  have h1 : 2 ^ tzN x.natAbs ≤ x.natAbs := Nat.le_of_dvd (by omega) (by
    have := fm_dvd x
    rw [← Int.natAbs_dvd_natAbs, Int.natAbs_pow] at this
    exact this)
  have h2 := Nat.le_trans h1 (hb x m1)
  have := (Nat.pow_le_pow_iff_right (by decide : 1 < 2)).mp h2
  omega
/-! the names known -/
theorem kn_mem {k : Kn} {r : Row} {v : Nat × Int × Int} (h : lkR k r = some v) : (r, v) ∈ k := by
  unfold lkR at h
  cases e : k.find? fun kv => decide (kv.1 = r) with
  | none => rw [e] at h; cases h
  | some kv =>
    rw [e] at h
    cases h
    have h1 := List.mem_of_find?_eq_some e
    have h2 := of_decide_eq_true (List.find?_some (p := fun kv : Row × (Nat × Int × Int) => decide (kv.1 = r)) e)
    rw [← h2]; exact h1
theorem kn_none {k : Kn} {r : Row} (h : lkR k r = none) : ∀ v, (r, v) ∉ k := by
  intro v hv
  unfold lkR at h
  rw [Option.map_eq_none_iff] at h
  have := List.find?_eq_none.mp h _ hv
  simp at this
structure BI (w : Web) (B : Nat) (i : Nat) (b : Bst) : Prop where
  ok : okDs (unitRows w.ins) b.ds
  len : b.ds.length ≤ i - w.ins
  pl : b.parts.length = i
  pt : ∀ j, j < i → Pt (rows w.ins b.ds) (b.parts.getD j noOut) (w.rows.getD j [])
  ps : ∀ p ∈ b.parts, p.shift.natAbs ≤ B
  kn : ∀ e ∈ b.known, e.2.1 < (rows w.ins b.ds).length ∧ nz ((rows w.ins b.ds).getD e.2.1 []) ≠ [] ∧ formS ((rows w.ins b.ds).getD e.2.1 []) ≤ B ∧ e = (formN ((rows w.ins b.ds).getD e.2.1 []), (e.2.1, formS ((rows w.ins b.ds).getD e.2.1 []), formG ((rows w.ins b.ds).getD e.2.1 [])))
  all : ∀ j, j < i → nz (w.rows.getD j []) ≠ [] → ∃ v, (formN (w.rows.getD j []), v) ∈ b.known
theorem sgn_pm (b : Bool) : sgn b = 1 ∨ sgn b = -1 := by cases b <;> simp [sgn]
theorem zip_sgn {b : Bool} : ∀ (x y : Row), List.zipWith (· + ·) x (y.map (sgn b * ·)) = List.zipWith (sg b) x y
  | [], _ => by simp
  | _ :: _, [] => by simp
  | p :: x, q :: y => by
    rw [List.map_cons, List.zipWith_cons_cons, List.zipWith_cons_cons, zip_sgn x y]
    congr 1
    cases b <;> simp [sgn, sg]; omega
theorem nz_zero {n : Nat} : nz (List.replicate n 0) = [] := by
  unfold nz
  rw [List.filter_eq_nil_iff]
  intro x hx
  rw [List.eq_of_mem_replicate hx]; simp
theorem map_id1 (r : Row) : r.map (1 * ·) = r := by
  have : (fun x : Int => 1 * x) = id := by funext x; simp
  rw [this, List.map_id]
theorem nz_map {r : Row} {f : Int → Int} (h : nz (r.map f) ≠ []) (h0 : f 0 = 0) : nz r ≠ [] := fun q => h (by
  unfold nz at q ⊢
  rw [List.filter_eq_nil_iff] at q ⊢
  intro y hy
  obtain ⟨x, hx, rfl⟩ := List.mem_map.mp hy
  have := q x hx
  simp at this
  rw [this, h0]; simp)
section
variable {w : Web} {B S : Nat}
theorem bareI (h1 : 1 ≤ w.ins) (ok : okDs (unitRows w.ins) w.deeds) (near : ∀ d ∈ w.deeds, d.s.natAbs ≤ S ∧ d.t.natAbs ≤ S) (hB : Bd B w.rows) (hBS : B + S ≤ 4000) : ∀ i, i ≤ w.ins + w.deeds.length → BI w B i (w.bareL i)
  | 0, _ => ⟨trivial, by simp [Web.bareL], rfl, fun j h => by omega, fun p hp => (by cases hp), fun e he => (by cases he), fun j h => by omega⟩
  | k + 1, hk => by
    have I := bareI h1 ok near hB hBS k (by omega)
    rw [Web.bareL_succ]
    generalize w.bareL k = b at I
    obtain ⟨ds, parts, known⟩ := b
    have hR : ∀ r ∈ rows w.ins ds, r.length = w.ins := rows_width I.ok
    have hl : 0 < (rows w.ins ds).length := by rw [rows_len]; omega
    have hkr : k < w.rows.length := by
      have : w.rows.length = w.ins + w.deeds.length := rows_len
      omega
    have hrl : (w.rows.getD k []).length = w.ins := rows_width ok _ (getD_mem hkr)
    have hrB : ∀ x ∈ w.rows.getD k [], x.natAbs ≤ 2 ^ B := hB _ (getD_mem hkr)
    have I2 := I.len
    have I3 := I.pl
    simp only at I2 I3
    unfold bareS
    by_cases hz : nz (w.rows.getD k []) = []
    · rw [if_pos hz]
      have hr0 : w.rows.getD k [] = List.replicate w.ins 0 := by
        rw [← hrl]
        refine List.eq_replicate_iff.mpr ⟨rfl, fun x hx => ?_⟩
        unfold nz at hz
        rw [List.filter_eq_nil_iff] at hz
        simpa using hz x hx
      refine ⟨I.ok, by show ds.length ≤ _; omega, by show (parts ++ [noOut]).length = _; rw [List.length_append, I3]; rfl, fun j hj => ?_, fun p hp => ?_, I.kn, fun j hj hn => ?_⟩
      · by_cases hjk : j < k
        · show Pt _ ((parts ++ [noOut]).getD j noOut) _
          rw [getD_left (by omega)]; exact I.pt j hjk
        · have : j = k := by omega
          subst this
          show Pt _ ((parts ++ [noOut]).getD j noOut) _
          rw [← I3, getD_last, I3, hr0]
          exact ⟨.inl rfl, outRow_noOut hR hl⟩
      · rcases List.mem_append.mp hp with q | q
        · exact I.ps p q
        · rw [List.mem_singleton.mp q]; show (0 : Int).natAbs ≤ B; simp
      · by_cases hjk : j < k
        · exact I.all j hjk hn
        · have : j = k := by omega
          subst this
          exact absurd hz hn
    · rw [if_neg hz]
      have hSb := fm_bound hz hrB
      have hS0 := fm_S0 hz
      cases hlk : lkR known (formN (w.rows.getD k [])) with
      | some v =>
        simp only [hlk]
        obtain ⟨a1, a2, a3, a4⟩ := I.kn _ (kn_mem hlk)
        simp only at a1 a2 a3 a4
        generalize hρ : (rows w.ins ds).getD v.1 [] = ρ at a1 a2 a3 a4
        obtain ⟨v1, v2, v3⟩ := v
        simp only [Prod.mk.injEq] at a4
        obtain ⟨e1, _, e2, e3⟩ := a4
        simp only at a1 hρ
        have hT0 := fm_S0 a2
        have hgr := fm_G hz
        have hgρ := fm_G a2
        have hgg : formG (w.rows.getD k []) * v3 = 1 ∨ formG (w.rows.getD k []) * v3 = -1 := by
          rw [e3]; rcases hgr with q | q <;> rcases hgρ with q' | q' <;> rw [q, q'] <;> simp
        have hpt : Pt (rows w.ins ds) ⟨v1, formS (w.rows.getD k []) - v2, formG (w.rows.getD k []) * v3⟩ (w.rows.getD k []) := by
          have key : ∀ y ∈ formN (w.rows.getD k []), okS (formG ρ * (y * 2 ^ (formS ρ).toNat)) (formS (w.rows.getD k []) - v2) ∧ shI (formG ρ * (y * 2 ^ (formS ρ).toNat)) (formS (w.rows.getD k []) - v2) = formG ρ * (y * 2 ^ (formS (w.rows.getD k [])).toNat) := fun y _ => by
            refine (shI_iff (P := (formS ρ).toNat) (by omega)).mpr ?_
            rw [Int.mul_assoc, Int.mul_assoc, Int.mul_assoc, Int.mul_assoc, ← Int.pow_add, ← Int.pow_add]
            congr 3
            omega
          have hρr : ρ = (formN (w.rows.getD k [])).map fun y => formG ρ * (y * 2 ^ (formS ρ).toNat) := by
            rw [e1]; exact fm_row a2
          refine ⟨.inr ⟨a1, by show -4000 ≤ formS _ - v2 ∧ formS _ - v2 ≤ 4000; omega, ?_, hgg⟩, ?_⟩
          · show okR ((rows w.ins ds).getD v1 []) (formS (w.rows.getD k []) - v2)
            rw [hρ, hρr]
            intro x hx
            obtain ⟨y, hy, rfl⟩ := List.mem_map.mp hx
            exact (key y hy).1
          · unfold outRow shR
            show (((rows w.ins ds).getD v1 []).map _).map _ = _
            rw [hρ]
            conv => rhs; rw [fm_row hz]
            conv => lhs; rw [hρr]
            rw [List.map_map, List.map_map]
            refine List.map_congr_left fun y hy => ?_
            show formG (w.rows.getD k []) * v3 * shI (formG ρ * (y * 2 ^ (formS ρ).toNat)) (formS (w.rows.getD k []) - v2) = formG (w.rows.getD k []) * (y * 2 ^ (formS (w.rows.getD k [])).toNat)
            rw [(key y hy).2, e3, Int.mul_assoc]
            congr 1
            rw [← Int.mul_assoc, show formG ρ * formG ρ = 1 by rcases hgρ with q | q <;> rw [q] <;> rfl, Int.one_mul]
        refine ⟨I.ok, by show ds.length ≤ _; omega, by show (parts ++ [_]).length = _; rw [List.length_append, I3]; rfl, fun j hj => ?_, fun p hp => ?_, I.kn, fun j hj hn => ?_⟩
        · by_cases hjk : j < k
          · show Pt _ ((parts ++ [_]).getD j noOut) _
            rw [getD_left (by omega)]; exact I.pt j hjk
          · have : j = k := by omega
            subst this
            show Pt _ ((parts ++ [_]).getD j noOut) _
            rw [← I3, getD_last, I3]
            exact hpt
        · rcases List.mem_append.mp hp with q | q
          · exact I.ps p q
          · rw [List.mem_singleton.mp q]; show (formS _ - v2).natAbs ≤ B; omega
        · by_cases hjk : j < k
          · exact I.all j hjk hn
          · have : j = k := by omega
            subst this
            exact ⟨_, kn_mem hlk⟩
      | none =>
        simp only [hlk]
        -- the new part
        suffices hdp : ∀ dp : List Deed × Out, dp = (if k < w.ins then (ds, ⟨k, 0, 1⟩) else match w.deeds[k - w.ins]? with
            | some d => sumP w.ins ds (liftP (parts.getD d.a noOut) d.s) (signP (liftP (parts.getD d.b noOut) d.t) (sgn d.less))
            | none => (ds, ⟨k, 0, 1⟩)) → okDs (unitRows w.ins) dp.1 ∧ dp.1.length ≤ k + 1 - w.ins ∧ (∃ es, dp.1 = ds ++ es) ∧ Pt (rows w.ins dp.1) dp.2 (w.rows.getD k []) ∧ dp.2.shift = 0 by
          obtain ⟨c1, c2, ⟨es, c3⟩, c4, c5⟩ := hdp _ rfl
          generalize (if k < w.ins then ((ds, ⟨k, 0, 1⟩) : List Deed × Out) else match w.deeds[k - w.ins]? with
            | some d => sumP w.ins ds (liftP (parts.getD d.a noOut) d.s) (signP (liftP (parts.getD d.b noOut) d.t) (sgn d.less))
            | none => (ds, ⟨k, 0, 1⟩)) = dp at c1 c2 c3 c4 c5
          obtain ⟨ds', p⟩ := dp
          simp only at c1 c2 c3 c4 c5
          subst c3
          have hex : ∀ i, i < (rows w.ins ds).length → (rows w.ins (ds ++ es)).getD i [] = (rows w.ins ds).getD i [] := fun i hi => rows_ext hi
          refine ⟨c1, c2, by show (parts ++ [p]).length = _; rw [List.length_append, I3]; rfl, fun j hj => ?_, fun q hq => ?_, fun e he => ?_, fun j hj hn => ?_⟩
          · by_cases hjk : j < k
            · show Pt _ ((parts ++ [p]).getD j noOut) _
              rw [getD_left (by omega)]; exact (I.pt j hjk).ext (by omega)
            · have : j = k := by omega
              subst this
              show Pt _ ((parts ++ [p]).getD j noOut) _
              rw [← I3, getD_last, I3]
              exact c4
          · rcases List.mem_append.mp hq with q | q
            · exact I.ps _ q
            · rw [List.mem_singleton.mp q, c5]; simp
          · rcases List.mem_append.mp he with q | q
            · obtain ⟨a1, a2, a3, a4⟩ := I.kn e q
              rw [hex _ a1]
              refine ⟨?_, a2, a3, a4⟩
              simp only at a1
              rw [rows_len] at a1 ⊢
              rw [List.length_append]; omega
            · have hps : p.sign ≠ 0 := fun q0 => by
                have e0 := okO_zero c4.ok q0
                have := c4.val
                rw [e0, outRow_noOut (rows_width c1) (by rw [rows_len]; omega)] at this
                rw [← this] at hz
                exact hz nz_zero
              obtain ⟨t1, t2, t3, t4⟩ := c4.thing hps
              have hv := c4.val
              unfold outRow shR at hv
              rw [List.map_map] at hv
              have hv2 : ((rows w.ins (ds ++ es)).getD p.thing []).map (fun x => p.sign * shI x p.shift) = w.rows.getD k [] := hv
              generalize hρ : (rows w.ins (ds ++ es)).getD p.thing [] = ρ at hv2 t3
              have hnz : nz ρ ≠ [] := by
                rw [← hv2] at hz
                exact nz_map hz (by rw [shI_zero, Int.mul_zero])
              obtain ⟨f1, f2, f3, f4⟩ := fm_scale t4 t3 hnz
              rw [hv2] at f1 f2 f3 f4
              have q' := List.mem_singleton.mp q
              subst q'
              show p.thing < _ ∧ nz ((rows w.ins (ds ++ es)).getD p.thing []) ≠ [] ∧ formS ((rows w.ins (ds ++ es)).getD p.thing []) ≤ B ∧ _ = (formN ((rows w.ins (ds ++ es)).getD p.thing []), (p.thing, formS ((rows w.ins (ds ++ es)).getD p.thing []), formG ((rows w.ins (ds ++ es)).getD p.thing [])))
              rw [hρ]
              refine ⟨t1, hnz, by omega, ?_⟩
              have g1 : formG (w.rows.getD k []) * p.sign = formG ρ := by
                rw [f4, Int.mul_right_comm, show p.sign * p.sign = 1 by rcases t4 with q | q <;> rw [q] <;> rfl, Int.one_mul]
              have g2 : formS (w.rows.getD k []) = formS ρ := by rw [f3, c5]; omega
              rw [f2, g1, g2]
          · by_cases hjk : j < k
            · obtain ⟨v, hv⟩ := I.all j hjk hn
              exact ⟨v, List.mem_append_left _ hv⟩
            · have : j = k := by omega
              subst this
              exact ⟨_, List.mem_append_right _ (List.mem_singleton.mpr rfl)⟩
        intro dp hdp
        by_cases hki : k < w.ins
        · rw [if_pos hki] at hdp
          subst hdp
          have hu : (rows w.ins ds).getD k [] = w.rows.getD k [] := by
            have a := rows_ext (n := w.ins) (ds := []) (es := ds) (i := k) (by rw [rows_len]; simpa using hki)
            have b := rows_ext (n := w.ins) (ds := []) (es := w.deeds) (i := k) (by rw [rows_len]; simpa using hki)
            rw [List.nil_append] at a b
            rw [a]; exact b.symm
          refine ⟨I.ok, by show ds.length ≤ _; omega, ⟨[], by simp⟩, ⟨.inr ⟨by rw [rows_len]; show k < _; omega, ⟨(by decide : (-4000 : Int) ≤ 0), (by decide : (0 : Int) ≤ 4000)⟩, fun x _ => .inl (Int.le_refl 0), .inl rfl⟩, ?_⟩, rfl⟩
          unfold outRow shR
          show (((rows w.ins ds).getD k []).map fun x => shI x 0).map (1 * ·) = _
          rw [hu, map_id1]
          conv => rhs; rw [← List.map_id (w.rows.getD k [])]
          exact List.map_congr_left fun x _ => shI_none
        · rw [if_neg hki] at hdp
          obtain ⟨d, e⟩ : ∃ d, w.deeds[k - w.ins]? = some d := ⟨_, List.getElem?_eq_getElem (by omega)⟩
          rw [e] at hdp
          simp only at hdp
          subst hdp
          obtain ⟨ha, hb, _⟩ := ok_ab ok e
          obtain ⟨na, nb⟩ := near d (List.mem_of_getElem? e)
          have hd := okDs_at ok e
          have ra := rows_at (w := w) ha (by omega : k - w.ins ≤ w.deeds.length)
          have rb := rows_at (w := w) hb (by omega : k - w.ins ≤ w.deeds.length)
          have oa : okR (w.rows.getD d.a []) d.s := by rw [← ra]; exact hd.2.2.2.2.1
          have ob : okR (w.rows.getD d.b []) d.t := by rw [← rb]; exact hd.2.2.2.2.2
          have pa := I.pt d.a (by omega)
          have pb := I.pt d.b (by omega)
          simp only at pa pb
          have sa : (parts.getD d.a noOut).shift.natAbs ≤ B := I.ps _ (getD_mem (show d.a < parts.length by omega))
          have sb : (parts.getD d.b noOut).shift.natAbs ≤ B := I.ps _ (getD_mem (show d.b < parts.length by omega))
          have qa := pa.lift oa (fun _ => by omega)
          have qb := (pb.lift ob (fun _ => by omega)).sign hR hl (.inr (sgn_pm d.less))
          have hrow : w.rows.getD k [] = List.zipWith (· + ·) (shR (w.rows.getD d.a []) d.s) ((shR (w.rows.getD d.b []) d.t).map (sgn d.less * ·)) := by
            rw [zip_sgn]
            have e2 : w.rows.getD k [] = stepR (grow stepR (unitRows w.ins) (w.deeds.take (k - w.ins))) d := by
              rw [← rows_at (k := k - w.ins + 1) (by omega) (by omega)]
              unfold rows
              rw [grow_take _ e, show (grow stepR (unitRows w.ins) (w.deeds.take (k - w.ins)) ++ [stepR (grow stepR (unitRows w.ins) (w.deeds.take (k - w.ins))) d]).getD k [] = (grow stepR (unitRows w.ins) (w.deeds.take (k - w.ins)) ++ [stepR (grow stepR (unitRows w.ins) (w.deeds.take (k - w.ins))) d]).getD (grow stepR (unitRows w.ins) (w.deeds.take (k - w.ins))).length [] by rw [grow_len, unitRows_len, List.length_take, Nat.min_eq_left (by omega)]; congr 1; omega, getD_last]
            rw [e2]
            show List.zipWith (sg d.less) (shR ((rows w.ins (w.deeds.take (k - w.ins))).getD d.a []) d.s) (shR ((rows w.ins (w.deeds.take (k - w.ins))).getD d.b []) d.t) = _
            rw [ra, rb]
          obtain ⟨c1, c2⟩ := Pt.sum (by omega) I.ok qa qb
          rw [← hrow] at c2
          have hnk : ∀ j, j < k → nz (w.rows.getD j []) ≠ [] → formN (w.rows.getD j []) ≠ formN (w.rows.getD k []) := fun j hj hn q => by
            obtain ⟨v, hv⟩ := I.all j hj hn
            rw [q] at hv
            exact kn_none hlk v hv
          have hpa : (liftP (parts.getD d.a noOut) d.s).sign ≠ 0 := fun q => by
            have e0 := okO_zero qa.ok q
            have v0 := qa.val
            rw [e0, outRow_noOut hR hl] at v0
            have h2 := hrow
            rw [← v0, zip_zeroL (by rw [← qb.val]; exact (Pt.len ⟨qb.ok, rfl⟩ hR hl))] at h2
            have h3 : w.rows.getD k [] = (w.rows.getD d.b []).map fun x => sgn d.less * shI x d.t := by rw [h2]; unfold shR; rw [List.map_map]; rfl
            have hn : nz (w.rows.getD d.b []) ≠ [] := by
              rw [h3] at hz
              exact nz_map hz (by rw [shI_zero, Int.mul_zero])
            have := (fm_scale (sgn_pm d.less) ob hn).2.1
            rw [← h3] at this
            exact hnk d.b (by omega) hn this.symm
          have hpb : (signP (liftP (parts.getD d.b noOut) d.t) (sgn d.less)).sign ≠ 0 := fun q => by
            have e0 := okO_zero qb.ok q
            have v0 := qb.val
            rw [e0, outRow_noOut hR hl] at v0
            have h2 := hrow
            rw [← v0, zip_zeroR (by rw [← qa.val]; exact (Pt.len ⟨qa.ok, rfl⟩ hR hl))] at h2
            have h3 : w.rows.getD k [] = (w.rows.getD d.a []).map fun x => 1 * shI x d.s := by rw [h2]; unfold shR; exact List.map_congr_left fun x _ => (Int.one_mul _).symm
            have hn : nz (w.rows.getD d.a []) ≠ [] := by
              rw [h3] at hz
              exact nz_map hz (by rw [shI_zero, Int.mul_zero])
            have := (fm_scale (.inl rfl) oa hn).2.1
            rw [← h3] at this
            exact hnk d.a (by omega) hn this.symm
          have K := sumK (n := w.ins) (ds := ds) (p := liftP (parts.getD d.a noOut) d.s) (q := signP (liftP (parts.getD d.b noOut) d.t) (sgn d.less))
          refine ⟨c1, Nat.le_trans sumP_len (by show ds.length + 1 ≤ _; omega), sum_keep, c2, ?_⟩
          generalize sumP w.ins ds (liftP (parts.getD d.a noOut) d.s) (signP (liftP (parts.getD d.b noOut) d.t) (sgn d.less)) = z at K
          cases K with
          | l h => exact absurd h hpa
          | r _ h => exact absurd h hpb
          | s => rfl
          | d => rfl
          | e => rfl
end
theorem bare0_all {w : Web} {B S : Nat} (ok : w.ok) (near : Near S w) (hB : Bd B w.rows) (hBS : B + S ≤ 4000) : w.bare0.ok ∧ w.bare0.outRows = w.outRows ∧ w.bare0.deeds.length ≤ w.deeds.length := by
  have i1 := ok.i1
  have I := bareI ok.i1 ok.ds near.1 hB hBS (w.ins + w.deeds.length) (Nat.le_refl _)
  have hlen : w.bare0.deeds.length ≤ w.deeds.length := by
    have := I.len
    show (w.bareL (w.ins + w.deeds.length)).ds.length ≤ _
    omega
  have hR := rows_width I.ok
  have hl : 0 < (rows w.ins (w.bareL (w.ins + w.deeds.length)).ds).length := by rw [rows_len]; omega
  have key : ∀ o ∈ w.outs, Pt w.bare0.rows (signP (liftP ((w.bareL (w.ins + w.deeds.length)).parts.getD o.thing noOut) o.shift) o.sign) (outRow w.rows o) := fun o ho => by
    have hw : w.rows.length = w.ins + w.deeds.length := rows_len
    have h : o.thing < w.ins + w.deeds.length ∧ okR (w.rows.getD o.thing []) o.shift ∧ (o.sign = 0 ∨ o.sign = 1 ∨ o.sign = -1) := by
      rcases ok.os o ho with rfl | ⟨h1, h2, h3, h4⟩
      · exact ⟨by show 0 < _; omega, fun x _ => .inl (Int.le_refl 0), .inl rfl⟩
      · exact ⟨by omega, h3, .inr h4⟩
    have hb : ((w.bareL (w.ins + w.deeds.length)).parts.getD o.thing noOut).shift.natAbs ≤ B := I.ps _ (getD_mem (by rw [I.pl]; exact h.1))
    have hs := near.2 o ho
    exact ((I.pt o.thing h.1).lift h.2.1 (fun _ => by omega)).sign hR hl h.2.2
  refine ⟨⟨ok.i1, ok.i2, Nat.le_trans hlen ok.dl, ?_, I.ok, fun o ho => ?_⟩, ?_, hlen⟩
  · show (w.outs.map _).length ≤ 12
    rw [List.length_map]; exact ok.ol
  · obtain ⟨p, hp, rfl⟩ := List.mem_map.mp ho
    exact (key p hp).ok
  · unfold Web.outRows
    show (w.outs.map _).map _ = _
    rw [List.map_map]
    exact List.map_congr_left fun o ho => (key o ho).val
end SS
/-! The mathematics, six: turned. -/
namespace SS
open PySem
/-! ### sums -/
def sumN (f : Nat → Int) : Nat → Int
  | 0 => 0
  | n + 1 => sumN f n + f n
theorem sumN_congr {f g : Nat → Int} : ∀ {n : Nat}, (∀ i, i < n → f i = g i) → sumN f n = sumN g n
  | 0, _ => rfl
  | n + 1, h => by rw [sumN, sumN, sumN_congr fun i hi => h i (by omega), h n (by omega)]
theorem sumN_split {f : Nat → Int} {a : Nat} : ∀ {b : Nat}, sumN f (a + b) = sumN f a + sumN (fun k => f (a + k)) b
  | 0 => by simp [sumN]
  | b + 1 => by rw [← Nat.add_assoc, sumN, sumN_split, sumN]; omega
theorem sumN_delta {c : Int} {i : Nat} : ∀ {n : Nat}, sumN (fun j => if j = i then c else 0) n = if i < n then c else 0
  | 0 => by simp [sumN]
  | n + 1 => by
    rw [sumN, sumN_delta]
    by_cases h : n = i
    · subst h; simp
    · by_cases h2 : i < n
      · rw [if_pos h2, if_neg h, if_pos (by omega)]; omega
      · rw [if_neg h2, if_neg h, if_neg (by omega)]; omega
theorem sumN_zero {f : Nat → Int} {n : Nat} (h : ∀ i, i < n → f i = 0) : sumN f n = 0 := by
  rw [sumN_congr (g := fun _ => 0) h]
  induction n with
  | zero => rfl
  | succ n ih => rw [sumN, ih fun i hi => h i (by omega)]; rfl
theorem sumN_plus {f g : Nat → Int} : ∀ {n : Nat}, sumN (fun i => f i + g i) n = sumN f n + sumN g n
  | 0 => rfl
  | n + 1 => by rw [sumN, sumN_plus, sumN, sumN]; omega
theorem sum_flat {α : Type} {F : Nat → List α} {h : α → Int} : ∀ {n : Nat}, ((((List.range n).map F).flatten).map h).sum = sumN (fun k => ((F k).map h).sum) n
  | 0 => rfl
  | n + 1 => by
    rw [List.range_succ, List.map_append, List.flatten_append, List.map_append, List.sum_append, sum_flat, sumN]
    simp
/-- arrows by where they start -/
theorem sum_group {g : Nat → Int} {h : Arr → Int} {N : Nat} : ∀ {L : List Arr}, (∀ a ∈ L, a.st < N) → sumN (fun j => g j * ((L.filter fun a => decide (a.st = j)).map h).sum) N = (L.map fun a => g a.st * h a).sum
  | [], _ => by
    rw [sumN_zero fun i _ => by simp]; rfl
  | a :: L, hL => by
    rw [List.map_cons, List.sum_cons, ← sum_group (L := L) fun b hb => hL b (List.mem_cons_of_mem _ hb)]
    have e : ∀ j, g j * (((a :: L).filter fun a => decide (a.st = j)).map h).sum = (if j = a.st then g a.st * h a else 0) + g j * ((L.filter fun a => decide (a.st = j)).map h).sum := fun j => by
      by_cases hj : a.st = j
      · rw [List.filter_cons_of_pos (by simpa using hj), List.map_cons, List.sum_cons, Int.mul_add, if_pos hj.symm, hj]
      · rw [List.filter_cons_of_neg (by simpa using hj), if_neg (Ne.symm hj), Int.zero_add]
    rw [sumN_congr fun j _ => e j, sumN_plus, sumN_delta, if_pos (hL a List.mem_cons_self)]
/-! ### how high -/
/-- no shift below 0, and no way from an input to an out whose shifts come to more than B -/
structure TallD (B : Int) (n : Nat) (ds : List Deed) (H : Nat → Int) : Prop where
  pos : ∀ i, 0 ≤ H i
  top : ∀ i, H i ≤ B
  ds : ∀ k d, ds[k]? = some d → 0 ≤ d.s ∧ 0 ≤ d.t ∧ H d.a + d.s ≤ H (n + k) ∧ H d.b + d.t ≤ H (n + k) ∧ d.a < n + k ∧ d.b < n + k
def Lo (H : Nat → Int) (c : Int) (p : Out) : Prop := 0 ≤ p.shift ∧ (p.sign ≠ 0 → H p.thing + p.shift ≤ c)
def Tall (B : Int) (w : Web) : Prop := ∃ H : Nat → Int, TallD B w.ins w.deeds H ∧ ∀ o ∈ w.outs, Lo H B o
theorem Lo.no {H : Nat → Int} {c : Int} : Lo H c noOut := ⟨Int.le_refl 0, fun h => absurd rfl h⟩
theorem Lo.congr {R : List Row} {H H' : Nat → Int} {c : Int} {p : Out} (h : Lo H c p) (ok : okO R p) (e : ∀ i, i < R.length → H' i = H i) : Lo H' c p := by
  refine ⟨h.1, fun hs => ?_⟩
  rcases ok with q | q
  · subst q; exact absurd rfl hs
  · rw [e _ q.1]; exact h.2 hs
theorem sum_tall {B : Int} {n : Nat} {ds : List Deed} {p q : Out} {H : Nat → Int} {c : Int} (hcB : c ≤ B) (hT : TallD B n ds H) (hp : okO (rows n ds) p) (hq : okO (rows n ds) q) (lp : Lo H c p) (lq : Lo H c q) (hc : 0 ≤ c) :
    ∃ H', (∀ i, i < n + ds.length → H' i = H i) ∧ TallD B n (sumP n ds p q).1 H' ∧ Lo H' c (sumP n ds p q).2 := by
  have new : ∀ (d : Deed) (g : Int), d.a < n + ds.length → d.b < n + ds.length → 0 ≤ d.s → 0 ≤ d.t → H d.a + d.s ≤ c → H d.b + d.t ≤ c →
      ∃ H', (∀ i, i < n + ds.length → H' i = H i) ∧ TallD B n (ds ++ [d]) H' ∧ Lo H' c ⟨n + ds.length, 0, g⟩ := fun d g h1 h2 h3 h4 h5 h6 => by
    refine ⟨fun i => if i = n + ds.length then c else H i, fun i hi => if_neg (by omega), ⟨fun i => ?_, fun i => ?_, fun k e he => ?_⟩, Int.le_refl 0, fun _ => ?_⟩
    · show 0 ≤ if i = n + ds.length then c else H i
      split
      · exact hc
      · exact hT.pos i
    · show (if i = n + ds.length then c else H i) ≤ B
      split
      · exact hcB
      · exact hT.top i
    · show 0 ≤ e.s ∧ 0 ≤ e.t ∧ (if e.a = n + ds.length then c else H e.a) + e.s ≤ (if n + k = n + ds.length then c else H (n + k)) ∧ (if e.b = n + ds.length then c else H e.b) + e.t ≤ (if n + k = n + ds.length then c else H (n + k)) ∧ _
      by_cases hk : k < ds.length
      · rw [List.getElem?_append_left hk] at he
        obtain ⟨a1, a2, a3, a4, a5, a6⟩ := hT.ds k e he
        have x1 : (if e.a = n + ds.length then c else H e.a) = H e.a := if_neg (by omega)
        have x2 : (if e.b = n + ds.length then c else H e.b) = H e.b := if_neg (by omega)
        have x3 : (if n + k = n + ds.length then c else H (n + k)) = H (n + k) := if_neg (by omega)
        rw [x1, x2, x3]
        exact ⟨a1, a2, a3, a4, a5, a6⟩
      · have hk2 : k = ds.length := by
          have := (List.getElem?_eq_some_iff.mp he).1
          rw [List.length_append] at this
          have : ([d] : List Deed).length = 1 := rfl
          omega
        subst hk2
        simp at he
        subst he
        have x1 : (if d.a = n + ds.length then c else H d.a) = H d.a := if_neg (by omega)
        have x2 : (if d.b = n + ds.length then c else H d.b) = H d.b := if_neg (by omega)
        have x3 : (if n + ds.length = n + ds.length then c else H (n + ds.length)) = c := if_pos rfl
        rw [x1, x2, x3]
        exact ⟨h3, h4, h5, h6, h1, h2⟩
    · show (if n + ds.length = n + ds.length then c else _) + 0 ≤ c
      rw [if_pos rfl]; omega
  have tp : p.sign ≠ 0 → p.thing < n + ds.length := fun h => by
    rcases hp with q | q
    · subst q; exact absurd rfl h
    · rw [← rows_len]; exact q.1
  have tq : q.sign ≠ 0 → q.thing < n + ds.length := fun h => by
    rcases hq with q | q
    · subst q; exact absurd rfl h
    · rw [← rows_len]; exact q.1
  have K := sumK (n := n) (ds := ds) (p := p) (q := q)
  generalize sumP n ds p q = z at K
  cases K with
  | l => exact ⟨H, fun _ _ => rfl, hT, lq⟩
  | r => exact ⟨H, fun _ _ => rfl, hT, lp⟩
  | s g h1 h2 => exact new _ _ (tp h1) (tq h2) lp.1 lq.1 (lp.2 h1) (lq.2 h2)
  | d h1 h2 => exact new _ _ (tp (by omega)) (tq h2) lp.1 lq.1 (lp.2 (by omega)) (lq.2 h2)
  | e h1 _ h2 => exact new _ _ (tq h2) (tp h1) lq.1 lp.1 (lq.2 h2) (lp.2 h1)
theorem chain_all {B : Int} {n : Nat} {c : Int} (h0 : 0 < n) (hc : 0 ≤ c) (hcB : c ≤ B) : ∀ (ps : List Out) (ds : List Deed) (p : Out) (r : Row) (H : Nat → Int), okDs (unitRows n) ds → Pt (rows n ds) p r → (∀ q ∈ ps, okO (rows n ds) q) → TallD B n ds H → Lo H c p → (∀ q ∈ ps, Lo H c q) →
    okDs (unitRows n) (chainP n ds p ps).1 ∧ Pt (rows n (chainP n ds p ps).1) (chainP n ds p ps).2 ((ps.map (outRow (rows n ds))).foldl (List.zipWith (· + ·)) r) ∧ (∃ es, (chainP n ds p ps).1 = ds ++ es) ∧ ∃ H', (∀ i, i < n + ds.length → H' i = H i) ∧ TallD B n (chainP n ds p ps).1 H' ∧ Lo H' c (chainP n ds p ps).2
  | [], ds, p, r, H, ok, hp, _, hT, lp, _ => ⟨ok, hp, ⟨[], by simp [chainP]⟩, H, fun _ _ => rfl, hT, lp⟩
  | q :: ps, ds, p, r, H, ok, hp, hq, hT, lp, lq => by
    have oq := hq q List.mem_cons_self
    obtain ⟨s1, s2⟩ := Pt.sum h0 ok hp ⟨oq, rfl⟩
    obtain ⟨es, hes⟩ := sum_keep (n := n) (ds := ds) (p := p) (q := q)
    obtain ⟨H1, e1, t1, l1⟩ := sum_tall hcB hT hp.ok oq lp (lq q List.mem_cons_self) hc
    have e : chainP n ds p (q :: ps) = chainP n (sumP n ds p q).1 (sumP n ds p q).2 ps := rfl
    rw [e]
    generalize sumP n ds p q = z at s1 s2 hes t1 l1
    obtain ⟨ds', p'⟩ := z
    simp only at s1 s2 hes t1 l1 ⊢
    subst hes
    have ext : ∀ x ∈ ps, okO (rows n (ds ++ es)) x ∧ outRow (rows n (ds ++ es)) x = outRow (rows n ds) x := fun x hx => by
      have := Pt.ext (es := es) (⟨hq x (List.mem_cons_of_mem _ hx), rfl⟩ : Pt (rows n ds) x _) h0
      exact ⟨this.ok, this.val⟩
    obtain ⟨c1, c2, ⟨fs, c3⟩, H2, e2, t2, l2⟩ := chain_all h0 hc hcB ps (ds ++ es) p' _ H1 s1 s2 (fun x hx => (ext x hx).1) t1 l1 (fun x hx => (lq x (List.mem_cons_of_mem _ hx)).congr (hq x (List.mem_cons_of_mem _ hx)) fun i hi => e1 i (by rw [← rows_len]; exact hi))
    refine ⟨c1, ?_, ⟨es ++ fs, by rw [c3, List.append_assoc]⟩, H2, fun i hi => by rw [e2 i (by rw [List.length_append]; omega), e1 i hi], t2, l2⟩
    rw [List.map_congr_left fun x hx => (ext x hx).2] at c2
    exact c2
/-! ### arrows -/
theorem mem_flat {α : Type} {F : Nat → List α} {n : Nat} {a : α} : a ∈ ((List.range n).map F).flatten ↔ ∃ k, k < n ∧ a ∈ F k := by
  rw [List.mem_flatten]
  constructor
  · rintro ⟨l, hl, ha⟩
    obtain ⟨k, hk, rfl⟩ := List.mem_map.mp hl
    exact ⟨k, List.mem_range.mp hk, ha⟩
  · rintro ⟨k, hk, ha⟩
    exact ⟨_, List.mem_map.mpr ⟨k, List.mem_range.mpr hk, rfl⟩, ha⟩
def He (w : Web) (H : Nat → Int) (B : Int) (j : Nat) : Int := if j < w.ins + w.deeds.length then H j else B
structure ArrOk (w : Web) (H : Nat → Int) (B : Int) (a : Arr) : Prop where
  st : a.st < w.ins + w.deeds.length
  lt : a.st < a.en
  en : a.en < w.ins + w.deeds.length + w.outs.length
  sn : a.sn = 1 ∨ a.sn = -1
  sh : 0 ≤ a.sh
  hi : H a.st + a.sh ≤ He w H B a.en
theorem arr_ok {w : Web} {H : Nat → Int} {B : Int} (ok : w.ok) (hT : TallD B w.ins w.deeds H) (ho : ∀ o ∈ w.outs, Lo H B o) : ∀ a ∈ w.arrs, ArrOk w H B a := by
  intro a ha
  unfold Web.arrs at ha
  rcases List.mem_append.mp ha with h | h
  · obtain ⟨k, hk, h⟩ := mem_flat.mp h
    unfold Web.arrD at h
    have e : w.deeds[k]? = some w.deeds[k] := List.getElem?_eq_getElem hk
    generalize w.deeds[k] = d at e
    rw [e] at h
    obtain ⟨a1, a2, a3, a4, a5, a6⟩ := hT.ds k d e
    have hh : He w H B (w.ins + k) = H (w.ins + k) := if_pos (by omega)
    simp only [List.mem_cons, List.not_mem_nil, or_false] at h
    rcases h with rfl | rfl
    · exact ⟨by show d.a < _; omega, a5, by show w.ins + k < _; omega, .inl rfl, a1, by rw [hh]; exact a3⟩
    · exact ⟨by show d.b < _; omega, a6, by show w.ins + k < _; omega, sgn_pm _, a2, by rw [hh]; exact a4⟩
  · obtain ⟨k, hk, h⟩ := mem_flat.mp h
    unfold Web.arrO at h
    have e : w.outs[k]? = some w.outs[k] := List.getElem?_eq_getElem hk
    generalize w.outs[k] = o at e
    rw [e] at h
    have hm := List.mem_of_getElem? e
    by_cases hs : o.sign = 0
    · simp only [if_pos hs] at h; cases h
    · simp only [if_neg hs, List.mem_singleton] at h
      subst h
      have hw : w.rows.length = w.ins + w.deeds.length := rows_len
      rcases ok.os o hm with q | ⟨q1, _, _, q4⟩
      · subst q; exact absurd rfl hs
      · refine ⟨by show o.thing < _; omega, by show o.thing < _ + k; omega, by show w.ins + w.deeds.length + k < _; omega, q4, (ho o hm).1, ?_⟩
        have hh : He w H B (w.ins + w.deeds.length + k) = B := if_neg (by omega)
        show H o.thing + o.shift ≤ He w H B (w.ins + w.deeds.length + k)
        rw [hh]; exact (ho o hm).2 hs
theorem flat_le {α : Type} {F : Nat → List α} {c : Nat} (h : ∀ k, (F k).length ≤ c) : ∀ n, (((List.range n).map F).flatten).length ≤ c * n
  | 0 => by simp
  | n + 1 => by
    rw [List.range_succ, List.map_append, List.flatten_append, List.length_append]
    have := flat_le h n
    have := h n
    simp
    rw [Nat.mul_succ]; simp at *; omega
theorem arrs_le {w : Web} : w.arrs.length ≤ 2 * w.deeds.length + w.outs.length := by
  unfold Web.arrs
  rw [List.length_append]
  have h1 : ∀ k, (w.arrD k).length ≤ 2 := fun k => by unfold Web.arrD; split <;> simp
  have h2 : ∀ k, (w.arrO k).length ≤ 1 := fun k => by
    unfold Web.arrO; split
    · split <;> simp
    · simp
  have := flat_le h1 w.deeds.length
  have := flat_le h2 w.outs.length
  omega
/-! ### the turning -/
def accS (w : Web) (i : Nat) : List Deed × List Out := ((List.range (w.ins + w.deeds.length)).reverse.take i).foldl (turnS w) ([], w.turn0)
theorem rev_take {N i : Nat} (h : i < N) : (List.range N).reverse.take (i + 1) = (List.range N).reverse.take i ++ [N - 1 - i] := by
  have e : (List.range N).reverse[i]? = some (N - 1 - i) := by
    rw [List.getElem?_reverse (by simpa using h), List.length_range, List.getElem?_range (by omega)]
  rw [List.take_add_one, e]; rfl
theorem turnL_succ {w : Web} {i : Nat} (h : i < w.ins + w.deeds.length) : w.turnL (i + 1) = turnS w (w.turnL i) (w.ins + w.deeds.length - 1 - i) := by
  unfold Web.turnL
  rw [rev_take h, List.foldl_append]; rfl
/-- what an arrow brings -/
def brings (R : List Row) (parts : List Out) (a : Arr) : Row := (shR (outRow R (parts.getD a.en noOut)) a.sh).map (a.sn * ·)
structure TI (w : Web) (H : Nat → Int) (B : Int) (m : Nat) (ds : List Deed) (parts : List Out) : Prop where
  ok : okDs (unitRows w.outs.length) ds
  len : ds.length ≤ (w.arrs.filter fun a => decide (m ≤ a.st)).length
  pl : parts.length = w.ins + w.deeds.length + w.outs.length
  pt : ∀ j, m ≤ j → j < w.ins + w.deeds.length + w.outs.length → okO (rows w.outs.length ds) (parts.getD j noOut)
  out : ∀ k, k < w.outs.length → outRow (rows w.outs.length ds) (parts.getD (w.ins + w.deeds.length + k) noOut) = unitRow w.outs.length k
  eq : ∀ j, m ≤ j → j < w.ins + w.deeds.length → outRow (rows w.outs.length ds) (parts.getD j noOut) = ((w.listOf j).map (brings (rows w.outs.length ds) parts)).foldl (List.zipWith (· + ·)) (List.replicate w.outs.length 0)
  tall : ∃ H', TallD B w.outs.length ds H' ∧ ∀ j, m ≤ j → j < w.ins + w.deeds.length + w.outs.length → Lo H' (B - He w H B j) (parts.getD j noOut)
section
variable {w : Web} {H : Nat → Int} {B : Int}
theorem unitRow_at {n : Nat} {ds : List Deed} {k : Nat} (h : k < n) : (rows n ds).getD k [] = unitRow n k := by
  have := rows_ext (n := n) (ds := []) (es := ds) (i := k) (by rw [rows_len]; simpa using h)
  rw [List.nil_append] at this
  rw [this]
  show (unitRows n).getD k [] = _
  unfold unitRows
  exact getD_some (by rw [List.getElem?_map, List.getElem?_range h]; rfl)
theorem turn0_out {k : Nat} (h : k < w.outs.length) : w.turn0.getD (w.ins + w.deeds.length + k) noOut = ⟨k, 0, 1⟩ := by
  refine getD_some ?_
  unfold Web.turn0
  rw [List.getElem?_append_right (by rw [List.length_replicate]; omega), List.length_replicate, List.getElem?_map, show w.ins + w.deeds.length + k - (w.ins + w.deeds.length) = k by omega, List.getElem?_range h]; rfl
theorem unit_pt {n k : Nat} {ds : List Deed} (h : k < n) : Pt (rows n ds) ⟨k, 0, 1⟩ (unitRow n k) := by
  refine ⟨.inr ⟨by rw [rows_len]; show k < _; omega, ⟨(by decide : (-4000 : Int) ≤ 0), (by decide : (0 : Int) ≤ 4000)⟩, fun x _ => .inl (Int.le_refl 0), .inl rfl⟩, ?_⟩
  unfold outRow shR
  show (((rows n ds).getD k []).map fun x => shI x 0).map (1 * ·) = _
  rw [unitRow_at h, map_id1]
  conv => rhs; rw [← List.map_id (unitRow n k)]
  exact List.map_congr_left fun x _ => shI_none
theorem filter_split {L : List Arr} {t : Nat} : (L.filter fun a => decide (t ≤ a.st)).length = (L.filter fun a => decide (t + 1 ≤ a.st)).length + (L.filter fun a => decide (a.st = t)).length := by
  induction L with
  | nil => rfl
  | cons a L ih =>
    rw [List.filter_cons, List.filter_cons, List.filter_cons]
    by_cases h1 : a.st = t
    · have h2 : t ≤ a.st := by omega
      have h3 : ¬ t + 1 ≤ a.st := by omega
      simp only [decide_eq_true h1, decide_eq_true h2, decide_eq_false h3, if_true, Bool.false_eq_true, if_false, List.length_cons]; omega
    · by_cases h2 : t ≤ a.st
      · have h3 : t + 1 ≤ a.st := by omega
        simp only [decide_eq_false h1, decide_eq_true h2, decide_eq_true h3, if_true, Bool.false_eq_true, if_false, List.length_cons]; omega
      · have h3 : ¬ t + 1 ≤ a.st := by omega
        simp only [decide_eq_false h1, decide_eq_false h2, decide_eq_false h3, if_true, Bool.false_eq_true, if_false, List.length_cons]; omega
theorem getD_set_ne {α : Type} {l : List α} {i j : Nat} {x z : α} (h : i ≠ j) : (l.set i x).getD j z = l.getD j z := by
  rw [List.getD_eq_getElem?_getD, List.getElem?_set_ne h, List.getD_eq_getElem?_getD]
theorem getD_set_eq {α : Type} {l : List α} {i : Nat} {x z : α} (h : i < l.length) : (l.set i x).getD i z = x := getD_some (List.getElem?_set_self h)
theorem turnI (ok : w.ok) (hT : TallD B w.ins w.deeds H) (ho : ∀ o ∈ w.outs, Lo H B o) (hB0 : 0 ≤ B) (hB : B ≤ 4000) (hn : 0 < w.outs.length) : ∀ i, i ≤ w.ins + w.deeds.length → TI w H B (w.ins + w.deeds.length - i) (w.turnL i).1 (w.turnL i).2
  | 0, _ => by
    have e : w.turnL 0 = ([], w.turn0) := by unfold Web.turnL; rfl
    rw [e]
    have out : ∀ j, w.ins + w.deeds.length - 0 ≤ j → j < w.ins + w.deeds.length + w.outs.length → ∃ k, k < w.outs.length ∧ j = w.ins + w.deeds.length + k := fun j h1 h2 => ⟨j - (w.ins + w.deeds.length), by omega, by omega⟩
    refine ⟨trivial, by show 0 ≤ _; omega, by show w.turn0.length = _; unfold Web.turn0; simp, fun j h1 h2 => ?_, fun k hk => ?_, fun j h1 h2 => by omega, fun _ => 0, ⟨fun _ => Int.le_refl 0, fun _ => hB0, fun k d h => by simp at h⟩, fun j h1 h2 => ?_⟩
    · obtain ⟨k, hk, rfl⟩ := out j h1 h2
      show okO _ (w.turn0.getD _ noOut)
      rw [turn0_out hk]; exact (unit_pt hk).ok
    · show outRow _ (w.turn0.getD _ noOut) = _
      rw [turn0_out hk]; exact (unit_pt hk).val
    · obtain ⟨k, hk, rfl⟩ := out j h1 h2
      show Lo _ _ (w.turn0.getD _ noOut)
      rw [turn0_out hk, show He w H B (w.ins + w.deeds.length + k) = B from if_neg (by omega)]
      exact ⟨Int.le_refl 0, fun _ => by show (0 : Int) + 0 ≤ B - B; omega⟩
  | i + 1, hi => by
    have I := turnI ok hT ho hB0 hB hn i (by omega)
    rw [turnL_succ (by omega)]
    generalize w.turnL i = acc at I
    obtain ⟨ds, parts⟩ := acc
    have hm : w.ins + w.deeds.length - i = (w.ins + w.deeds.length - (i + 1)) + 1 := by omega
    have ht : w.ins + w.deeds.length - 1 - i = w.ins + w.deeds.length - (i + 1) := by omega
    rw [hm] at I
    rw [ht]
    generalize hte : w.ins + w.deeds.length - (i + 1) = t at I
    have htN : t < w.ins + w.deeds.length := by omega
    have hR := rows_width I.ok
    have hl : 0 < (rows w.outs.length ds).length := by rw [rows_len]; omega
    obtain ⟨H', tT, tL⟩ := I.tall
    have I3 := I.pl
    simp only at I3 tL tT
    -- what the arrows from t bring
    have hb : ∀ a ∈ w.listOf t, Pt (rows w.outs.length ds) (signP (liftP (parts.getD a.en noOut) a.sh) a.sn) (brings (rows w.outs.length ds) parts a) ∧ Lo H' (B - H t) (signP (liftP (parts.getD a.en noOut) a.sh) a.sn) ∧ t + 1 ≤ a.en ∧ a.en < w.ins + w.deeds.length + w.outs.length := fun a ha => by
      unfold Web.listOf at ha
      obtain ⟨ha1, ha2⟩ := List.mem_filter.mp ha
      have ha3 : a.st = t := of_decide_eq_true ha2
      have A := arr_ok ok hT ho a ha1
      have q1 : t + 1 ≤ a.en := by have := A.lt; omega
      have p1 := I.pt a.en q1 A.en
      have l1 := tL a.en q1 A.en
      have hh := A.hi
      rw [ha3] at hh
      simp only at p1
      have l2 : (parts.getD a.en noOut).sign ≠ 0 → (parts.getD a.en noOut).shift + a.sh ≤ B - H t ∧ H' (parts.getD a.en noOut).thing + ((parts.getD a.en noOut).shift + a.sh) ≤ B - H t := fun hs => by
        have := l1.2 hs
        have := tT.pos (parts.getD a.en noOut).thing
        omega
      have hp := hT.pos t
      have h1 := l1.1
      have h2 := A.sh
      refine ⟨(Pt.lift ⟨p1, rfl⟩ (fun x _ => .inl A.sh) (fun hs => ?_)).sign hR hl (.inr A.sn), ?_, q1, A.en⟩
      · have := (l2 hs).1; omega
      · have lift : Lo H' (B - H t) (liftP (parts.getD a.en noOut) a.sh) := by
          unfold liftP
          split
          · exact Lo.no
          · rename_i hs
            exact ⟨by show 0 ≤ _ + _; omega, fun _ => (l2 hs).2⟩
        rcases A.sn with e | e
        · rw [e, show signP (liftP (parts.getD a.en noOut) a.sh) 1 = liftP (parts.getD a.en noOut) a.sh by simp [signP]]; exact lift
        · rw [e, show signP (liftP (parts.getD a.en noOut) a.sh) (-1) = ⟨(liftP (parts.getD a.en noOut) a.sh).thing, (liftP (parts.getD a.en noOut) a.sh).shift, -(liftP (parts.getD a.en noOut) a.sh).sign⟩ by simp [signP]]
          exact ⟨lift.1, fun hs => lift.2 (fun q => hs (by show -_ = (0 : Int); rw [q]; rfl))⟩
    have hc : 0 ≤ B - H t := by have := hT.top t; omega
    have hcB : B - H t ≤ B := by have := hT.pos t; omega
    have z0 : Pt (rows w.outs.length ds) noOut (List.replicate w.outs.length 0) := ⟨.inl rfl, outRow_noOut hR hl⟩
    obtain ⟨c1, c2, ⟨es, c3⟩, H2, e2, t2, l2⟩ := chain_all hn hc hcB ((w.listOf t).map fun a => signP (liftP (parts.getD a.en noOut) a.sh) a.sn) ds noOut _ H' I.ok z0 (fun q hq => by obtain ⟨a, ha, rfl⟩ := List.mem_map.mp hq; exact (hb a ha).1.ok) tT Lo.no (fun q hq => by obtain ⟨a, ha, rfl⟩ := List.mem_map.mp hq; exact (hb a ha).2.1)
    have clen := chainP_len (n := w.outs.length) (ps := (w.listOf t).map fun a => signP (liftP (parts.getD a.en noOut) a.sh) a.sn) (ds := ds) (p := noOut)
    unfold turnS
    simp only
    rw [List.map_map] at c2
    have hcg : (w.listOf t).map (outRow (rows w.outs.length ds) ∘ fun a => signP (liftP (parts.getD a.en noOut) a.sh) a.sn) = (w.listOf t).map (brings (rows w.outs.length ds) parts) := List.map_congr_left fun a ha => (hb a ha).1.val
    rw [hcg] at c2
    generalize chainP w.outs.length ds noOut ((w.listOf t).map fun a => signP (liftP (parts.getD a.en noOut) a.sh) a.sn) = z at c1 c2 c3 t2 l2 clen
    obtain ⟨ds', p'⟩ := z
    simp only at c1 c2 c3 t2 l2 clen ⊢
    subst c3
    have ext : ∀ j, t + 1 ≤ j → j < w.ins + w.deeds.length + w.outs.length → okO (rows w.outs.length (ds ++ es)) (parts.getD j noOut) ∧ outRow (rows w.outs.length (ds ++ es)) (parts.getD j noOut) = outRow (rows w.outs.length ds) (parts.getD j noOut) := fun j h1 h2 => by
      have := Pt.ext (es := es) (⟨I.pt j h1 h2, rfl⟩ : Pt (rows w.outs.length ds) (parts.getD j noOut) _) hn
      exact ⟨this.ok, this.val⟩
    have hset : ∀ j, t + 1 ≤ j → (parts.set t p').getD j noOut = parts.getD j noOut := fun j h => getD_set_ne (by omega)
    have hself : (parts.set t p').getD t noOut = p' := getD_set_eq (by omega)
    have hbr : ∀ j, t ≤ j → j < w.ins + w.deeds.length → (w.listOf j).map (brings (rows w.outs.length (ds ++ es)) (parts.set t p')) = (w.listOf j).map (brings (rows w.outs.length ds) parts) := fun j h1 h2 => by
      refine List.map_congr_left fun a ha => ?_
      unfold Web.listOf at ha
      obtain ⟨ha1, ha2⟩ := List.mem_filter.mp ha
      have ha3 : a.st = j := of_decide_eq_true ha2
      have A := arr_ok ok hT ho a ha1
      have := A.lt
      unfold brings
      rw [hset a.en (by omega), (ext a.en (by omega) A.en).2]
    refine ⟨c1, ?_, by rw [List.length_set]; exact I3, fun j h1 h2 => ?_, fun k hk => ?_, fun j h1 h2 => ?_, H2, t2, fun j h1 h2 => ?_⟩
    · rw [filter_split]
      refine Nat.le_trans clen ?_
      rw [List.length_map]
      have := I.len
      simp only at this
      unfold Web.listOf; omega
    · by_cases hj : t + 1 ≤ j
      · rw [hset j hj]; exact (ext j hj h2).1
      · have : j = t := by omega
        subst this
        rw [hself]; exact c2.ok
    · rw [hset _ (by omega), (ext _ (by omega) (by omega)).2]; exact I.out k hk
    · rw [hbr j h1 h2]
      by_cases hj : t + 1 ≤ j
      · rw [hset j hj, (ext j hj (by omega)).2]; exact I.eq j hj h2
      · have : j = t := by omega
        subst this
        rw [hself]; exact c2.val
    · by_cases hj : t + 1 ≤ j
      · rw [hset j hj]
        exact (tL j hj h2).congr (I.pt j hj h2) fun i hi => e2 i (by rw [← rows_len]; exact hi)
      · have : j = t := by omega
        subst this
        rw [hself, show He w H B j = H j from if_pos htN]; exact l2
end
/-! ### what comes of it -/
theorem zipF_len {n : Nat} : ∀ (rs : List Row) (r : Row), r.length = n → (∀ x ∈ rs, x.length = n) → (rs.foldl (List.zipWith (· + ·)) r).length = n
  | [], r, h, _ => h
  | x :: rs, r, h, hx => zipF_len rs _ (by rw [List.length_zipWith, h, hx x List.mem_cons_self, Nat.min_self]) fun y hy => hx y (List.mem_cons_of_mem _ hy)
theorem zipF_at {n k : Nat} (hk : k < n) : ∀ (rs : List Row) (r : Row), r.length = n → (∀ x ∈ rs, x.length = n) → (rs.foldl (List.zipWith (· + ·)) r).getD k 0 = r.getD k 0 + (rs.map (·.getD k 0)).sum
  | [], r, h, _ => by simp
  | x :: rs, r, h, hx => by
    have hx1 := hx x List.mem_cons_self
    rw [List.foldl_cons, zipF_at hk rs _ (by rw [List.length_zipWith, h, hx1, Nat.min_self]) fun y hy => hx y (List.mem_cons_of_mem _ hy), List.map_cons, List.sum_cons]
    have e : (List.zipWith (· + ·) r x).getD k 0 = r.getD k 0 + x.getD k 0 := by
      refine getD_some ?_
      rw [List.getElem?_zipWith, getD_of (z := 0) (by omega : k < r.length), getD_of (z := 0) (by omega : k < x.length)]
    rw [e]; omega
theorem turned_all {w : Web} {B : Int} (ok : w.ok) (hT : Tall B w) (hB0 : 0 ≤ B) (hB : B ≤ 4000) (hn : 0 < w.outs.length) (hd : 2 * w.deeds.length + w.outs.length ≤ 60) :
    w.turned.ok ∧ Tall B w.turned ∧ w.turned.ins = w.outs.length ∧ w.turned.outs.length = w.ins ∧ w.turned.deeds.length ≤ 2 * w.deeds.length + w.outs.length ∧
    ∀ i k, i < w.ins → k < w.outs.length → (w.turned.outRows.getD i []).getD k 0 = (w.outRows.getD k []).getD i 0 := by
  obtain ⟨H, hT, ho⟩ := hT
  have I := turnI ok hT ho hB0 hB hn (w.ins + w.deeds.length) (Nat.le_refl _)
  rw [Nat.sub_self] at I
  have e : w.turned = ⟨w.outs.length, (w.turnL (w.ins + w.deeds.length)).1, (w.turnL (w.ins + w.deeds.length)).2.take w.ins⟩ := rfl
  rw [e]
  generalize w.turnL (w.ins + w.deeds.length) = acc at I
  obtain ⟨ds, parts⟩ := acc
  simp only at I ⊢
  have hlen : ds.length ≤ 2 * w.deeds.length + w.outs.length := Nat.le_trans I.len (Nat.le_trans (List.length_filter_le _ _) arrs_le)
  have hpl : parts.length = w.ins + w.deeds.length + w.outs.length := I.pl
  have hat : ∀ i, i < w.ins → (parts.take w.ins)[i]? = some (parts.getD i noOut) := fun i hi => by
    rw [List.getElem?_take_of_lt hi]; exact getD_of (by omega)
  have hmem : ∀ o ∈ parts.take w.ins, ∃ i, i < w.ins ∧ o = parts.getD i noOut := fun o h => by
    obtain ⟨i, hi⟩ := List.mem_iff_getElem?.mp h
    have hlt : i < w.ins := by
      have := (List.getElem?_eq_some_iff.mp hi).1
      rw [List.length_take] at this; omega
    exact ⟨i, hlt, by rw [hat i hlt] at hi; exact (Option.some.inj hi).symm⟩
  obtain ⟨H', tT, tL⟩ := I.tall
  have hR := rows_width I.ok
  have hl : 0 < (rows w.outs.length ds).length := by rw [rows_len]; omega
  refine ⟨⟨hn, ok.ol, by show ds.length ≤ 60; omega, by show (parts.take w.ins).length ≤ 12; rw [List.length_take]; have := ok.i2; omega, I.ok, fun o h => ?_⟩, ⟨H', tT, fun o h => ?_⟩, trivial, by show (parts.take w.ins).length = _; rw [List.length_take]; omega, hlen, fun i k hi hk => ?_⟩
  · obtain ⟨i, hi, rfl⟩ := hmem o h
    exact I.pt i (Nat.zero_le _) (by omega)
  · obtain ⟨i, hi, rfl⟩ := hmem o h
    have := tL i (Nat.zero_le _) (by omega)
    refine ⟨this.1, fun hs => ?_⟩
    have h2 := this.2 hs
    have h3 : He w H B i = H i := if_pos (by omega)
    have := hT.pos i
    rw [h3] at h2
    omega
  · have e1 : ((⟨w.outs.length, ds, parts.take w.ins⟩ : Web).outRows.getD i []) = outRow (rows w.outs.length ds) (parts.getD i noOut) := by
      refine getD_some ?_
      unfold Web.outRows
      rw [List.getElem?_map, hat i hi]; rfl
    rw [e1]
    -- the weights
    let T : Nat → Int := fun j => (outRow (rows w.outs.length ds) (parts.getD j noOut)).getD k 0
    let v : Nat → Int := fun j => (w.rows.getD j []).getD i 0
    have hok : ∀ a ∈ w.arrs, ArrOk w H B a := arr_ok ok hT ho
    have hPl : ∀ j, j < w.ins + w.deeds.length + w.outs.length → (outRow (rows w.outs.length ds) (parts.getD j noOut)).length = w.outs.length := fun j hj => Pt.len ⟨I.pt j (Nat.zero_le _) hj, rfl⟩ hR hl
    have hT1 : ∀ j, j < w.ins + w.deeds.length → T j = ((w.arrs.filter fun a => decide (a.st = j)).map fun a => a.sn * (T a.en * 2 ^ a.sh.toNat)).sum := fun j hj => by
      show (outRow (rows w.outs.length ds) (parts.getD j noOut)).getD k 0 = _
      have hbl : ∀ a ∈ w.listOf j, brings (rows w.outs.length ds) parts a = (outRow (rows w.outs.length ds) (parts.getD a.en noOut)).map fun x => a.sn * (x * 2 ^ a.sh.toNat) := fun a ha => by
        have A := hok a (List.mem_filter.mp ha).1
        unfold brings shR
        rw [List.map_map]
        refine List.map_congr_left fun x _ => ?_
        show a.sn * shI x a.sh = _
        unfold shI; rw [if_pos A.sh]
      rw [I.eq j (Nat.zero_le _) hj, zipF_at hk _ _ (by rw [List.length_replicate]) fun x hx => ?_]
      · rw [List.map_map]
        have : (List.replicate w.outs.length (0 : Int)).getD k 0 = 0 := getD_some (by rw [List.getElem?_replicate, if_pos hk])
        rw [this, Int.zero_add]
        congr 1
        refine List.map_congr_left fun a ha => ?_
        show (brings (rows w.outs.length ds) parts a).getD k 0 = _
        have A := hok a (List.mem_filter.mp ha).1
        rw [hbl a ha, getD_map (z := 0) (by rw [hPl a.en A.en]; exact hk)]
      · obtain ⟨a, ha, rfl⟩ := List.mem_map.mp hx
        have A := hok a (List.mem_filter.mp ha).1
        rw [hbl a ha, List.length_map]; exact hPl a.en A.en
    have hTo : ∀ k', k' < w.outs.length → T (w.ins + w.deeds.length + k') = if k = k' then 1 else 0 := fun k' hk' => by
      show (outRow (rows w.outs.length ds) (parts.getD (w.ins + w.deeds.length + k') noOut)).getD k 0 = _
      rw [I.out k' hk']
      unfold unitRow
      exact getD_some (by rw [List.getElem?_map, List.getElem?_range hk]; rfl)
    -- both ways round
    have s1 := sum_group (g := v) (h := fun a => a.sn * (T a.en * 2 ^ a.sh.toNat)) (N := w.ins + w.deeds.length) (L := w.arrs) fun a ha => (hok a ha).st
    rw [sumN_congr (g := fun j => v j * T j) fun j hj => by rw [← hT1 j hj]] at s1
    rw [sumN_split] at s1
    have hv0 : ∀ j, j < w.ins → v j = if j = i then 1 else 0 := fun j hj => by
      show (w.rows.getD j []).getD i 0 = _
      rw [show w.rows.getD j [] = unitRow w.ins j from unitRow_at hj]
      unfold unitRow
      rw [getD_some (by rw [List.getElem?_map, List.getElem?_range hi]; rfl)]
      show (if i = j then (1 : Int) else 0) = _
      by_cases h : i = j
      · rw [if_pos h, if_pos h.symm]
      · rw [if_neg h, if_neg (Ne.symm h)]
    have a1 : sumN (fun j => v j * T j) w.ins = T i := by
      rw [sumN_congr (g := fun j => if j = i then T i else 0) fun j hj => ?_, sumN_delta, if_pos hi]
      show v j * T j = _
      rw [hv0 j hj]
      by_cases h : j = i
      · rw [if_pos h, if_pos h, h, Int.one_mul]
      · rw [if_neg h, if_neg h, Int.zero_mul]
    rw [a1] at s1
    have a2 : (w.arrs.map fun a => v a.st * (a.sn * (T a.en * 2 ^ a.sh.toNat))).sum = sumN (fun k' => v (w.ins + k') * T (w.ins + k')) w.deeds.length + sumN (fun k' => (w.outRows.getD k' []).getD i 0 * T (w.ins + w.deeds.length + k')) w.outs.length := by
      unfold Web.arrs
      rw [List.map_append, List.sum_append, sum_flat, sum_flat]
      have hwl : w.rows.length = w.ins + w.deeds.length := rows_len
      congr 1
      · refine sumN_congr fun k' hk' => ?_
        have ed : w.deeds[k']? = some w.deeds[k'] := List.getElem?_eq_getElem hk'
        generalize w.deeds[k'] = d at ed
        obtain ⟨b1, b2, b3, b4, b5, b6⟩ := hT.ds k' d ed
        have er : w.rows.getD (w.ins + k') [] = stepR (rows w.ins (w.deeds.take k')) d := by
          rw [← rows_at (k := k' + 1) (by omega) (by omega)]
          unfold rows
          rw [grow_take _ ed]
          have hL : w.ins + k' = (grow stepR (unitRows w.ins) (w.deeds.take k')).length := by rw [grow_len, unitRows_len, List.length_take, Nat.min_eq_left (by omega)]
          conv => lhs; rw [hL]
          rw [getD_last]
        have ev : v (w.ins + k') = v d.a * 2 ^ d.s.toNat + sgn d.less * (v d.b * 2 ^ d.t.toNat) := by
          show (w.rows.getD (w.ins + k') []).getD i 0 = _
          rw [er]
          unfold stepR
          rw [rows_at (by omega) (by omega), rows_at (by omega) (by omega)]
          have la : (w.rows.getD d.a []).length = w.ins := rows_width ok.ds _ (getD_mem (by rw [rows_len]; omega))
          have lb : (w.rows.getD d.b []).length = w.ins := rows_width ok.ds _ (getD_mem (by rw [rows_len]; omega))
          refine getD_some ?_
          unfold shR
          rw [List.getElem?_zipWith, List.getElem?_map, List.getElem?_map, getD_of (z := 0) (la ▸ hi : i < (w.rows.getD d.a []).length), getD_of (z := 0) (lb ▸ hi : i < (w.rows.getD d.b []).length)]
          show some (sg d.less (shI (v d.a) d.s) (shI (v d.b) d.t)) = _
          unfold shI
          rw [if_pos b1, if_pos b2]
          cases d.less <;> simp [sg, sgn]; omega
        rw [show w.arrD k' = [⟨d.a, w.ins + k', d.s, 1⟩, ⟨d.b, w.ins + k', d.t, sgn d.less⟩] by unfold Web.arrD; rw [ed]]
        show v d.a * (1 * (T (w.ins + k') * 2 ^ d.s.toNat)) + (v d.b * (sgn d.less * (T (w.ins + k') * 2 ^ d.t.toNat)) + 0) = _
        rw [ev, Int.add_zero, Int.one_mul, Int.add_mul]
        congr 1
        · rw [Int.mul_comm (T _), Int.mul_assoc]
        · rw [Int.mul_comm (T _), ← Int.mul_assoc, ← Int.mul_assoc, ← Int.mul_assoc, Int.mul_comm (v d.b) (sgn d.less)]
      · refine sumN_congr fun k' hk' => ?_
        have eo : w.outs[k']? = some w.outs[k'] := List.getElem?_eq_getElem hk'
        generalize w.outs[k'] = o at eo
        have hm := List.mem_of_getElem? eo
        have er : w.outRows.getD k' [] = outRow w.rows o := getD_some (by unfold Web.outRows; rw [List.getElem?_map, eo]; rfl)
        have hth : o.thing < w.rows.length := by
          rcases ok.os o hm with q | q
          · subst q; show 0 < _; have := ok.i1; omega
          · exact q.1
        have la : (w.rows.getD o.thing []).length = w.ins := rows_width ok.ds _ (getD_mem hth)
        have ev : (outRow w.rows o).getD i 0 = o.sign * (v o.thing * 2 ^ o.shift.toNat) := by
          refine getD_some ?_
          unfold outRow shR
          rw [List.getElem?_map, List.getElem?_map, getD_of (z := 0) (la ▸ hi : i < (w.rows.getD o.thing []).length)]
          show some (o.sign * shI (v o.thing) o.shift) = _
          unfold shI
          rw [if_pos (ho o hm).1]
        rw [er, ev]
        by_cases hs : o.sign = 0
        · rw [show w.arrO k' = [] by unfold Web.arrO; rw [eo]; simp [hs], hs]; simp
        · rw [show w.arrO k' = [⟨o.thing, w.ins + w.deeds.length + k', o.shift, o.sign⟩] by unfold Web.arrO; rw [eo]; simp [hs]]
          show v o.thing * (o.sign * (T (w.ins + w.deeds.length + k') * 2 ^ o.shift.toNat)) + 0 = _
          rw [Int.add_zero, Int.mul_comm (T _), ← Int.mul_assoc, ← Int.mul_assoc, ← Int.mul_assoc, Int.mul_comm (v o.thing) o.sign]
    rw [a2] at s1
    have a3 : sumN (fun k' => (w.outRows.getD k' []).getD i 0 * T (w.ins + w.deeds.length + k')) w.outs.length = (w.outRows.getD k []).getD i 0 := by
      rw [sumN_congr (g := fun k' => if k' = k then (w.outRows.getD k []).getD i 0 else 0) fun k' hk' => ?_, sumN_delta, if_pos hk]
      show _ * T _ = _
      rw [hTo k' hk']
      by_cases h : k = k'
      · rw [if_pos h, if_pos h.symm, h, Int.mul_one]
      · rw [if_neg h, if_neg (Ne.symm h), Int.mul_zero]
    rw [a3] at s1
    show T i = _
    omega
end SS
set_option exponentiation.threshold 100
/-! The mathematics, seven: widths. -/
namespace SS
open PySem PyProof.Rows
def lies (n : Int) (w : Nat) : Prop := -(2 ^ (w - 1)) ≤ n ∧ n < 2 ^ (w - 1)
instance {n : Int} {w : Nat} : Decidable (lies n w) := by unfold lies; exact inferInstance
theorem pw {w : Nat} (h : 1 ≤ w) : (2 : Int) ^ w = 2 * 2 ^ (w - 1) := by
  obtain ⟨k, rfl⟩ : ∃ k, w = k + 1 := ⟨w - 1, by omega⟩
  rw [Nat.add_sub_cancel, Int.pow_succ, Int.mul_comm]
theorem wr_lies {n : Int} {w : Nat} (h : 1 ≤ w) : lies (wr n w) w ∧ (2 : Int) ^ w ∣ n - wr n w := by
  have hp := p2pos (w - 1)
  have e := pw h
  have h1 := Int.emod_nonneg n (p2ne w)
  have h2 := Int.emod_lt_of_pos n (p2pos w)
  have h3 : (2 : Int) ^ w ∣ n - n % 2 ^ w := Int.dvd_of_emod_eq_zero (by rw [Int.sub_emod, Int.emod_emod, Int.sub_self, Int.zero_emod])
  unfold wr lies
  generalize (2 : Int) ^ w = p at *
  split
  · refine ⟨by omega, ?_⟩
    rw [show n - (n % p - p) = (n - n % p) + p by omega]
    exact Int.dvd_add h3 (Int.dvd_refl p)
  · exact ⟨by omega, h3⟩
theorem wr_eq {x y : Int} {w : Nat} (h : 1 ≤ w) (hy : lies y w) (hd : (2 : Int) ^ w ∣ x - y) : wr x w = y := by
  obtain ⟨⟨a1, a2⟩, a3⟩ := wr_lies (n := x) h
  obtain ⟨b1, b2⟩ := hy
  have e := pw h
  have hp := p2pos (w - 1)
  obtain ⟨c, hc⟩ : (2 : Int) ^ w ∣ wr x w - y := by
    rw [show wr x w - y = (x - y) - (x - wr x w) by omega]
    exact Int.dvd_sub hd a3
  rw [e] at hc
  generalize (2 : Int) ^ (w - 1) = p at *
  have h1 : 2 * p * c < 2 * p * 1 := by omega
  have h2 : 2 * p * (-1) < 2 * p * c := by omega
  have h3 := Int.lt_of_mul_lt_mul_left h1 (by omega)
  have h4 := Int.lt_of_mul_lt_mul_left h2 (by omega)
  have : c = 0 := by omega
  rw [this, Int.mul_zero] at hc
  omega
/-! ### the sure bits -/
structure Good (w : Nat) (p h m : Int) : Prop where
  l : lies h w
  m0 : 0 ≤ m
  m1 : m ≤ w
  d : (2 : Int) ^ m.toNat ∣ p - h
theorem dvd_pow {a b : Nat} (h : a ≤ b) : (2 : Int) ^ a ∣ 2 ^ b := by
  rw [show b = a + (b - a) by omega, Int.pow_add]; exact Int.dvd_mul_right _ _
theorem psure_eq {m s w : Int} (h : 0 ≤ w) : 0 ≤ psure m s w ∧ psure m s w ≤ w ∧ (psure m s w ≤ m + s ∨ psure m s w = 0) := by
  unfold psure mx mn
  split <;> split <;> omega
theorem part_good {w : Nat} {p h m s : Int} (hw : 1 ≤ w) (g : Good w p h m) (ok : okS p s) : 0 ≤ psure m s w ∧ psure m s w ≤ w ∧ (2 : Int) ^ (psure m s w).toNat ∣ shI p s - shW h s w := by
  obtain ⟨a1, a2, a3⟩ := psure_eq (m := m) (s := s) (w := (w : Int)) (by omega)
  refine ⟨a1, a2, ?_⟩
  rcases a3 with a3 | a3
  · rw [okS_iff] at ok
    unfold shI shW
    by_cases hs : 0 ≤ s
    · rw [if_pos hs, if_neg (by omega)]
      rw [show p * 2 ^ s.toNat - wr (h * 2 ^ s.toNat) w = (p - h) * 2 ^ s.toNat + (h * 2 ^ s.toNat - wr (h * 2 ^ s.toNat) w) by rw [Int.sub_mul]; omega]
      refine Int.dvd_add ?_ (Int.dvd_trans (dvd_pow (by omega)) (wr_lies hw).2)
      obtain ⟨c, hc⟩ := g.d
      have := g.m0
      rw [hc, Int.mul_right_comm, ← Int.pow_add]
      exact Int.dvd_trans (dvd_pow (by omega)) (Int.dvd_mul_right _ _)
    · rw [if_neg hs, if_pos (by omega)]
      rcases ok with q | q
      · exact absurd q hs
      · obtain ⟨y, hy⟩ := q
        obtain ⟨c, hc⟩ := g.d
        have h0 := g.m0
        rw [hy, Int.mul_ediv_cancel_left _ (p2ne _)]
        by_cases hms : 0 ≤ m + s
        · have eh : h = 2 ^ (-s).toNat * (y - 2 ^ (m + s).toNat * c) := by
            have : (2 : Int) ^ m.toNat = 2 ^ (-s).toNat * 2 ^ (m + s).toNat := by rw [← Int.pow_add]; congr 1; omega
            rw [Int.mul_sub, ← Int.mul_assoc, ← this, ← hy, ← hc]; omega
          rw [eh, Int.mul_ediv_cancel_left _ (p2ne _), show y - (y - 2 ^ (m + s).toNat * c) = 2 ^ (m + s).toNat * c by omega]
          exact Int.dvd_trans (dvd_pow (by omega)) (Int.dvd_mul_right _ _)
        · rw [show (psure m s w).toNat = 0 by omega]
          exact Int.one_dvd _
  · rw [a3]; exact Int.one_dvd _
theorem mn_le {i j : Int} : mn i j ≤ i ∧ mn i j ≤ j ∧ (mn i j = i ∨ mn i j = j) := by unfold mn; split <;> omega
theorem mx_le {i j : Int} : i ≤ mx i j ∧ j ≤ mx i j ∧ (mx i j = i ∨ mx i j = j) := by unfold mx; split <;> omega
theorem step_good {w : Nat} (hw : 1 ≤ w) {V W S : List Int} {d : Deed} (ga : Good w (V.getD d.a 0) (W.getD d.a 0) (S.getD d.a 0)) (gb : Good w (V.getD d.b 0) (W.getD d.b 0) (S.getD d.b 0)) (oa : okS (V.getD d.a 0) d.s) (ob : okS (V.getD d.b 0) d.t) : Good w (stepV V d) (stepW w W d) (stepS w S d) := by
  obtain ⟨a1, a2, a3⟩ := part_good hw ga oa
  obtain ⟨b1, b2, b3⟩ := part_good hw gb ob
  unfold stepV stepW stepS
  generalize shI (V.getD d.a 0) d.s = p1 at *
  generalize shI (V.getD d.b 0) d.t = p2 at *
  generalize shW (W.getD d.a 0) d.s w = h1 at *
  generalize shW (W.getD d.b 0) d.t w = h2 at *
  generalize psure (S.getD d.a 0) d.s w = m1 at *
  generalize psure (S.getD d.b 0) d.t w = m2 at *
  obtain ⟨c1, c2, c3⟩ := mn_le (i := m1) (j := m2)
  obtain ⟨w1, w2⟩ := wr_lies (n := sg d.less h1 h2) hw
  refine ⟨w1, by omega, by omega, ?_⟩
  have d1 := Int.dvd_trans (dvd_pow (a := (mn m1 m2).toNat) (by omega)) a3
  have d2 := Int.dvd_trans (dvd_pow (a := (mn m1 m2).toNat) (by omega)) b3
  have d3 := Int.dvd_trans (dvd_pow (a := (mn m1 m2).toNat) (by omega)) w2
  rw [show sg d.less p1 p2 - wr (sg d.less h1 h2) w = (sg d.less p1 p2 - sg d.less h1 h2) + (sg d.less h1 h2 - wr (sg d.less h1 h2) w) by omega]
  refine Int.dvd_add ?_ d3
  unfold sg
  split
  · rw [show p1 - p2 - (h1 - h2) = (p1 - h1) - (p2 - h2) by omega]; exact Int.dvd_sub d1 d2
  · rw [show p1 + p2 - (h1 + h2) = (p1 - h1) + (p2 - h2) by omega]; exact Int.dvd_add d1 d2
theorem getD_mapd {v : List Int} {R : List Row} {i : Nat} (h : i < R.length) : (R.map (dot · v)).getD i 0 = dot (R.getD i []) v := getD_map (z := []) h
theorem grow_good {w n : Nat} {v : List Int} (hw : 1 ≤ w) : ∀ (ds : List Deed) (R : List Row) (W S : List Int), (∀ r ∈ R, r.length = n) → okDs R ds → W.length = R.length → S.length = R.length → (∀ i, i < R.length → Good w ((R.map (dot · v)).getD i 0) (W.getD i 0) (S.getD i 0)) →
    ∀ i, i < R.length + ds.length → Good w ((grow stepV (R.map (dot · v)) ds).getD i 0) ((grow (stepW w) W ds).getD i 0) ((grow (stepS w) S ds).getD i 0)
  | [], R, W, S, _, _, _, _, h, i, hi => h i (by simpa using hi)
  | d :: ds, R, W, S, hR, ok, hW, hS, h, i, hi => by
    obtain ⟨⟨a1, a2, a3, a4, a5, a6⟩, ok2⟩ := ok
    rw [grow, grow, grow]
    have hv := stepV_dot (v := v) hR (⟨a1, a2, a3, a4, a5, a6⟩ : okD R d)
    have hg := step_good hw (h d.a a1) (h d.b a2) (by rw [getD_mapd a1]; exact okS_dot a5) (by rw [getD_mapd a2]; exact okS_dot a6)
    have e : R.map (dot · v) ++ [stepV (R.map (dot · v)) d] = (R ++ [stepR R d]).map (dot · v) := by rw [hv]; simp
    rw [e]
    refine grow_good (n := n) hw ds (R ++ [stepR R d]) _ _ (fun r hr => ?_) ok2 (by rw [List.length_append, List.length_append, hW]; rfl) (by rw [List.length_append, List.length_append, hS]; rfl) (fun j hj => ?_) i (by rw [List.length_append]; simp at hi ⊢; omega)
    · rcases List.mem_append.mp hr with q | q
      · exact hR r q
      · rw [List.mem_singleton.mp q]; exact stepR_len hR a1 a2
    · rw [← e]
      by_cases hj2 : j < R.length
      · rw [getD_left (by rw [List.length_map]; exact hj2), getD_left (by omega), getD_left (by omega)]; exact h j hj2
      · have : j = R.length := by rw [List.length_append] at hj; simp at hj; omega
        subst this
        have l1 : (R.map (dot · v) ++ [stepV (R.map (dot · v)) d]).getD R.length 0 = stepV (R.map (dot · v)) d := by
          have := getD_last (l := R.map (dot · v)) (x := stepV (R.map (dot · v)) d) (z := 0)
          rwa [List.length_map] at this
        have l2 : (W ++ [stepW w W d]).getD R.length 0 = stepW w W d := by rw [← hW]; exact getD_last
        have l3 : (S ++ [stepS w S d]).getD R.length 0 = stepS w S d := by rw [← hS]; exact getD_last
        rw [l1, l2, l3]; exact hg
theorem wide_good {x : Web} {w : Nat} {v : List Int} (hw : 1 ≤ w) (ok : okDs (unitRows x.ins) x.deeds) (hv : v.length = x.ins) : ∀ i, i < x.ins + x.deeds.length → Good w ((x.vals v).getD i 0) ((x.valsW w v).getD i 0) ((x.sures w).getD i 0) := by
  intro i hi
  have := grow_good (v := v) hw x.deeds (unitRows x.ins) (v.map (wr · w)) (List.replicate x.ins (w : Int)) unitRows_width ok (by rw [List.length_map, unitRows_len, hv]) (by rw [List.length_replicate, unitRows_len]) (fun j hj => ?_) i (by rw [unitRows_len]; exact hi)
  · rw [← hv, units_dot] at this
    rw [hv] at this
    exact this
  · rw [← hv, units_dot]
    rw [unitRows_len] at hj
    have e1 : (v.map (wr · w)).getD j 0 = wr (v.getD j 0) w := getD_map (z := 0) (by omega)
    have e2 : (List.replicate v.length (w : Int)).getD j 0 = w := getD_some (by rw [List.getElem?_replicate, if_pos (by omega)])
    obtain ⟨w1, w2⟩ := wr_lies (n := v.getD j 0) hw
    rw [e1, e2]
    exact ⟨w1, by omega, Int.le_refl _, by rw [Int.toNat_natCast]; exact w2⟩
/-! ### where all lie, nothing differs -/
theorem shW_mod {w : Nat} (hw : 1 ≤ w) {p s : Int} : (2 : Int) ^ w ∣ shW p s w - shI p s := by
  unfold shW shI
  by_cases hs : 0 ≤ s
  · rw [if_pos hs, if_neg (by omega)]
    have := (wr_lies (n := p * 2 ^ s.toNat) hw).2
    rw [show wr (p * 2 ^ s.toNat) w - p * 2 ^ s.toNat = -(p * 2 ^ s.toNat - wr (p * 2 ^ s.toNat) w) by omega]
    exact Int.dvd_neg.mpr this
  · rw [if_neg hs, if_pos (by omega), Int.sub_self]; exact Int.dvd_zero _
theorem step_lies {w : Nat} (hw : 1 ≤ w) {V : List Int} {d : Deed} (h : lies (stepV V d) w) : stepW w V d = stepV V d := by
  unfold stepW
  refine wr_eq hw h ?_
  unfold stepV
  have d1 := shW_mod hw (p := V.getD d.a 0) (s := d.s)
  have d2 := shW_mod hw (p := V.getD d.b 0) (s := d.t)
  generalize shW (V.getD d.a 0) d.s w = h1 at *
  generalize shW (V.getD d.b 0) d.t w = h2 at *
  unfold sg
  split
  · rw [show h1 - h2 - (shI (V.getD d.a 0) d.s - shI (V.getD d.b 0) d.t) = (h1 - shI (V.getD d.a 0) d.s) - (h2 - shI (V.getD d.b 0) d.t) by omega]; exact Int.dvd_sub d1 d2
  · rw [show h1 + h2 - (shI (V.getD d.a 0) d.s + shI (V.getD d.b 0) d.t) = (h1 - shI (V.getD d.a 0) d.s) + (h2 - shI (V.getD d.b 0) d.t) by omega]; exact Int.dvd_add d1 d2
theorem grow_lies {w : Nat} (hw : 1 ≤ w) : ∀ (ds : List Deed) (V : List Int), (∀ n ∈ grow stepV V ds, lies n w) → grow (stepW w) V ds = grow stepV V ds
  | [], V, _ => rfl
  | d :: ds, V, h => by
    rw [grow] at h
    rw [grow, grow, step_lies hw (h _ (List.mem_of_getElem? (grow_get ds _ (i := V.length) (by simp))))]
    exact grow_lies hw ds _ h
theorem lies_wr {n : Int} {w : Nat} (hw : 1 ≤ w) (h : lies n w) : wr n w = n := wr_eq hw h (by rw [Int.sub_self]; exact Int.dvd_zero _)
theorem wide_same {x : Web} {w : Nat} {v : List Int} (hw : 1 ≤ w) (h1 : ∀ n ∈ x.vals v, lies n w) : x.valsW w v = x.vals v := by
  have hv : v.map (wr · w) = v := by
    conv => rhs; rw [← List.map_id v]
    refine List.map_congr_left fun n hn => ?_
    obtain ⟨i, hi⟩ := List.mem_iff_getElem?.mp hn
    exact lies_wr hw (h1 n (List.mem_of_getElem? (grow_get x.deeds v hi)))
  unfold Web.valsW
  rw [hv]
  exact grow_lies hw _ _ h1
theorem wide_outs {x : Web} {w : Nat} {v : List Int} (hw : 1 ≤ w) (h1 : ∀ n ∈ x.vals v, lies n w) (h2 : ∀ n ∈ x.outVals v, lies n w) : x.outsW w v = x.outVals v := by
  unfold Web.outsW
  rw [wide_same hw h1]
  unfold Web.outVals at h2 ⊢
  refine List.map_congr_left fun o ho => ?_
  unfold outW
  refine wr_eq hw (h2 _ (List.mem_map.mpr ⟨o, ho, rfl⟩)) ?_
  unfold outV
  rw [← Int.mul_sub]
  exact Int.dvd_mul_of_dvd_right (shW_mod hw)
/-! ### the least width -/
theorem bits_iff {n : Int} {k : Nat} : Builtin.Int.intBits n ≤ k ↔ n.natAbs < 2 ^ k := by
  constructor
  · intro h
    exact Nat.lt_of_lt_of_le (natAbs_lt_pow_bits n) (Nat.pow_le_pow_right (by decide) h)
  · exact intBits_le
theorem need_iff {n : Int} {w : Nat} (hw : 1 ≤ w) : needI n ≤ w ↔ lies n w := by
  unfold needI lies
  have e : ((2 ^ (w - 1) : Nat) : Int) = (2 : Int) ^ (w - 1) := by norm_cast
  have h : Builtin.Int.intBits (if n < 0 then -n - 1 else n) ≤ w - 1 ↔ (if n < 0 then -n - 1 else n).natAbs < 2 ^ (w - 1) := bits_iff
  rw [← e]
  generalize 2 ^ (w - 1) = p at h ⊢
  generalize Builtin.Int.intBits (if n < 0 then -n - 1 else n) = b at h ⊢
  split at h <;> omega
theorem wforF_le {rg : List (Int × Int)} {f : Int} {r : Row} {w : Nat} (hw : 1 ≤ w) : wforF rg f r ≤ w ↔ f ≤ w ∧ lies (endsL r rg).1 w ∧ lies (endsL r rg).2 w := by
  unfold wforF
  rw [← need_iff hw, ← need_iff hw]
  have h1 := mx_le (i := mx f (needI (endsL r rg).1)) (j := needI (endsL r rg).2)
  have h2 := mx_le (i := f) (j := needI (endsL r rg).1)
  omega
theorem foldF_le {rg : List (Int × Int)} {w : Nat} (hw : 1 ≤ w) : ∀ (rs : List Row) (f : Int), rs.foldl (wforF rg) f ≤ w ↔ f ≤ w ∧ ∀ r ∈ rs, lies (endsL r rg).1 w ∧ lies (endsL r rg).2 w
  | [], f => by simp
  | r :: rs, f => by
    rw [List.foldl_cons, foldF_le hw rs, wforF_le hw]
    simp only [List.mem_cons, forall_eq_or_imp]
    constructor
    · rintro ⟨⟨a, b⟩, c⟩; exact ⟨a, b, c⟩
    · rintro ⟨a, b, c⟩; exact ⟨⟨a, b⟩, c⟩
theorem foldF_ge {rg : List (Int × Int)} : ∀ (rs : List Row) (f : Int), f ≤ rs.foldl (wforF rg) f
  | [], f => Int.le_refl f
  | r :: rs, f => by
    rw [List.foldl_cons]
    refine Int.le_trans ?_ (foldF_ge rs _)
    unfold wforF
    have h1 := mx_le (i := mx f (needI (endsL r rg).1)) (j := needI (endsL r rg).2)
    have h2 := mx_le (i := f) (j := needI (endsL r rg).1)
    omega
theorem wfor_pos {x : Web} {rg : List (Int × Int)} : 1 ≤ wfor x rg := foldF_ge _ _
theorem wfor_le {x : Web} {rg : List (Int × Int)} {w : Nat} (hw : 1 ≤ w) : wfor x rg ≤ w ↔ ∀ r ∈ x.rows ++ x.outRows, lies (endsL r rg).1 w ∧ lies (endsL r rg).2 w := by
  unfold wfor
  rw [foldF_le hw]
  constructor
  · exact fun h => h.2
  · exact fun h => ⟨by omega, h⟩
def same (v : List Int) : List (Int × Int) := v.map fun y => (y, y)
theorem endsF_same : ∀ (r v : List Int) (acc : Int × Int), (r.zip (same v)).foldl endsF acc = (acc.1 + dot r v, acc.2 + dot r v)
  | [], v, acc => by simp [dot]
  | _ :: _, [], acc => by simp [dot, same]
  | x :: r, y :: v, acc => by
    show (r.zip (same v)).foldl endsF (endsF acc (x, (y, y))) = _
    rw [endsF_same]
    have e : dot (x :: r) (y :: v) = x * y + dot r v := by simp [dot]
    have m1 : mn (x * y) (x * y) = x * y := by unfold mn; split <;> rfl
    have m2 : mx (x * y) (x * y) = x * y := by unfold mx; split <;> rfl
    unfold endsF
    simp only [m1, m2, e]
    ext <;> simp <;> omega
theorem ends_same {r v : List Int} : endsL r (same v) = (dot r v, dot r v) := by
  unfold endsL
  rw [endsF_same]; simp
theorem wfor_same {x : Web} {v : List Int} {w : Nat} (ok : x.ok) (hv : v.length = x.ins) (hw : 1 ≤ w) : wfor x (same v) ≤ w ↔ ∀ n ∈ x.vals v ++ x.outVals v, lies n w := by
  rw [wfor_le hw, vals_rows ok.ds hv, outVals_rows ok hv, ← List.map_append]
  constructor
  · intro h n hn
    obtain ⟨r, hr, rfl⟩ := List.mem_map.mp hn
    have := (h r hr).1
    rw [ends_same] at this; exact this
  · intro h r hr
    rw [ends_same]
    have := h _ (List.mem_map.mpr ⟨r, hr, rfl⟩)
    exact ⟨this, this⟩
/-! ### the range of one input -/
def inside (half n y : Int) : Prop := -half ≤ n * y ∧ n * y ≤ half - 1
theorem rngF_iff {half : Int} (hh : 1 ≤ half) {acc : Int × Int} {n y : Int} : ((rngF half acc n).1 ≤ y ∧ y ≤ (rngF half acc n).2) ↔ (acc.1 ≤ y ∧ y ≤ acc.2) ∧ inside half n y := by
  unfold inside rngF
  by_cases h1 : n > 0
  · rw [if_pos h1]
    have e1 : -(half / n) ≤ y ↔ -half ≤ n * y := by
      rw [show (-(half / n) ≤ y ↔ -half ≤ n * y) ↔ (-y ≤ half / n ↔ -y * n ≤ half) by rw [Int.neg_mul, Int.mul_comm y n]; omega]
      exact Int.le_ediv_iff_mul_le h1
    have e2 : y ≤ (half - 1) / n ↔ n * y ≤ half - 1 := by rw [Int.mul_comm]; exact Int.le_ediv_iff_mul_le h1
    have m1 := mx_le (i := acc.1) (j := -(half / n))
    have m2 := mn_le (i := acc.2) (j := (half - 1) / n)
    simp only
    omega
  · rw [if_neg h1]
    by_cases h2 : n < 0
    · rw [if_pos h2]
      have e1 : -((half - 1) / -n) ≤ y ↔ n * y ≤ half - 1 := by
        rw [show (-((half - 1) / -n) ≤ y ↔ n * y ≤ half - 1) ↔ (-y ≤ (half - 1) / -n ↔ -y * -n ≤ half - 1) by rw [Int.neg_mul_neg, Int.mul_comm y n]; omega]
        exact Int.le_ediv_iff_mul_le (by omega)
      have e2 : y ≤ half / -n ↔ -half ≤ n * y := by
        rw [show (y ≤ half / -n ↔ -half ≤ n * y) ↔ (y ≤ half / -n ↔ y * -n ≤ half) by rw [Int.mul_neg, Int.mul_comm y n]; omega]
        exact Int.le_ediv_iff_mul_le (by omega)
      have m1 := mx_le (i := acc.1) (j := -((half - 1) / -n))
      have m2 := mn_le (i := acc.2) (j := half / -n)
      simp only
      omega
    · rw [if_neg h2]
      have : n = 0 := by omega
      subst this
      rw [Int.zero_mul]
      omega
theorem rngFold_iff {half : Int} (hh : 1 ≤ half) {y : Int} : ∀ (ns : List Int) (acc : Int × Int), ((ns.foldl (rngF half) acc).1 ≤ y ∧ y ≤ (ns.foldl (rngF half) acc).2) ↔ (acc.1 ≤ y ∧ y ≤ acc.2) ∧ ∀ n ∈ ns, inside half n y
  | [], acc => by simp
  | n :: ns, acc => by
    rw [List.foldl_cons, rngFold_iff hh ns, rngF_iff hh]
    simp only [List.mem_cons, forall_eq_or_imp]
    constructor
    · rintro ⟨⟨a, b⟩, c⟩; exact ⟨a, b, c⟩
    · rintro ⟨a, b, c⟩; exact ⟨⟨a, b⟩, c⟩
theorem half_pos {w : Nat} : (1 : Int) ≤ 2 ^ (w - 1) := p2pos _
theorem rngW_iff {x : Web} {w : Nat} {y : Int} : ((rngW x w).1 ≤ y ∧ y ≤ (rngW x w).2) ↔ lies y w ∧ ∀ r ∈ x.rows ++ x.outRows, lies (r.getD 0 0 * y) w := by
  unfold rngW rngL
  rw [rngFold_iff half_pos]
  unfold lies
  simp only [List.mem_map, forall_exists_index, and_imp, forall_apply_eq_imp_iff₂, inside]
  constructor
  · rintro ⟨a, b⟩
    exact ⟨by omega, fun r hr => by have := b r hr; omega⟩
  · rintro ⟨a, b⟩
    exact ⟨by omega, fun r hr => by have := b r hr; omega⟩
theorem rngW_zero {x : Web} {w : Nat} : (rngW x w).1 ≤ 0 ∧ 0 ≤ (rngW x w).2 := by
  refine rngW_iff.mpr ?_
  have h0 : lies 0 w := by unfold lies; have := p2pos (w - 1); omega
  exact ⟨h0, fun r _ => by rw [Int.mul_zero]; exact h0⟩
theorem one_row {x : Web} (ok : x.ok) (h : x.ins = 1) : ∀ r ∈ x.rows ++ x.outRows, ∃ n, r = [n] := by
  have w1 : ∀ r ∈ x.rows, r.length = 1 := fun r hr => h ▸ rows_width ok.ds r hr
  intro r hr
  have : r.length = 1 := by
    rcases List.mem_append.mp hr with q | q
    · exact w1 r q
    · obtain ⟨o, ho, rfl⟩ := List.mem_map.mp q
      have hth : o.thing < x.rows.length := by
        rcases ok.os o ho with q | q
        · subst q; exact ok.pos
        · exact q.1
      unfold outRow shR
      rw [List.length_map, List.length_map]; exact w1 _ (getD_mem hth)
  match r, this with
  | [n], _ => exact ⟨n, rfl⟩
theorem fits_one {x : Web} {w : Nat} {l h : Int} (ok : x.ok) (h1 : x.ins = 1) (hw : 1 ≤ w) : wfor x [(l, h)] ≤ w ↔ ∀ r ∈ x.rows ++ x.outRows, lies (r.getD 0 0 * l) w ∧ lies (r.getD 0 0 * h) w := by
  rw [wfor_le hw]
  refine forall_congr' fun r => forall_congr' fun hr => ?_
  obtain ⟨n, rfl⟩ := one_row ok h1 r hr
  show lies (endsF (0, 0) (n, (l, h))).1 w ∧ lies (endsF (0, 0) (n, (l, h))).2 w ↔ lies (n * l) w ∧ lies (n * h) w
  unfold endsF lies
  have m1 := mn_le (i := n * l) (j := n * h)
  have m2 := mx_le (i := n * l) (j := n * h)
  simp only
  omega
theorem unit_in {x : Web} (ok : x.ok) (h1 : x.ins = 1) : [1] ∈ x.rows ++ x.outRows := by
  refine List.mem_append_left _ ?_
  have : x.rows.getD 0 [] = unitRow x.ins 0 := unitRow_at (by rw [h1]; decide)
  rw [h1] at this
  have e : unitRow 1 0 = [1] := by decide
  rw [e] at this
  rw [← this]
  exact getD_mem ok.pos
theorem range_fits {x : Web} {w : Nat} (ok : x.ok) (h1 : x.ins = 1) (hw : 1 ≤ w) : wfor x [rngW x w] ≤ w := by
  obtain ⟨a, b⟩ := rngW_zero (x := x) (w := w)
  have l := (rngW_iff (x := x) (w := w) (y := (rngW x w).1)).mp ⟨Int.le_refl _, by omega⟩
  have h := (rngW_iff (x := x) (w := w) (y := (rngW x w).2)).mp ⟨by omega, Int.le_refl _⟩
  exact (fits_one (l := (rngW x w).1) (h := (rngW x w).2) ok h1 hw).mpr fun r hr => ⟨l.2 r hr, h.2 r hr⟩
theorem range_beyond {x : Web} {w : Nat} {l h y : Int} (ok : x.ok) (h1 : x.ins = 1) (hw : 1 ≤ w) (hy : y = l ∨ y = h) (hn : y < (rngW x w).1 ∨ (rngW x w).2 < y) : ¬ wfor x [(l, h)] ≤ w := by
  intro q
  have q2 := (fits_one ok h1 hw).mp q
  have : lies y w ∧ ∀ r ∈ x.rows ++ x.outRows, lies (r.getD 0 0 * y) w := by
    have a : ∀ r ∈ x.rows ++ x.outRows, lies (r.getD 0 0 * y) w := fun r hr => by
      rcases hy with rfl | rfl
      · exact (q2 r hr).1
      · exact (q2 r hr).2
    have b := a [1] (unit_in ok h1)
    rw [show ([1] : Row).getD 0 0 = 1 from rfl, Int.one_mul] at b
    exact ⟨b, a⟩
  have := rngW_iff.mpr this
  omega
end SS
set_option maxHeartbeats 4000000
set_option exponentiation.threshold 300
/-! The walks, thirteen: the law's own defs, two. -/
namespace SS
open PySem PySem.Spec PyProof.Rows L2
open SX (S)
theorem Cal.impS {P : Program} {w : World} {K : PySem.W.Frag} {mg : Str → Option Value} {base : Heap} {x : Str} {k : Nat} {ps : List Str} {S S' : List SV → Rs → Post → Prop} (c : Cal P w K mg base x k ps (spS K S)) (h : ∀ svs O post, S' svs O post → S svs O post) : Cal P w K mg base x k ps (spS K S') :=
  let ⟨f, fd, G, a, b, e⟩ := c.ex
  ⟨f, fd, G.imp fun vs H Q E ⟨F, A, svs, O, post, r, z⟩ => ⟨F, A, svs, O, post, h svs O post r, z⟩, a, b, e⟩
def lowF (r : Row) : Nat := ((List.range 40).find? fun k => r.any fun x => !decide (x % (2 * 2 ^ k) = 0)).getD 40
def R_low (ds : List PyData) (d : PyData) : Prop := ∃ r : Row, r.length ≤ 12 ∧ ds = [encL r] ∧ d = .int (lowF r)
def R_moved (ds : List PyData) (d : PyData) : Prop := ∃ (r : Row) (s : Int), r.length ≤ 12 ∧ (∀ x ∈ r, x.natAbs ≤ 2 ^ 1000) ∧ (-40 ≤ s ∧ s ≤ 40) ∧ ds = [encL r, .int s] ∧ d = encL (shR r s)
def S_shift (svs : List SV) (O : Rs) (post : Post) : Prop := ∃ (k n : Nat) (r : Row) (c : Ow), svs = [.ptr k, .dat (encL r)] ∧ O[k]? = some c ∧ FdO n c ∧ n + 40 ≤ 1000000 ∧ r.length ≤ 12 ∧ ∀ s c', okR r s → -40 ≤ s → s ≤ 40 → FdO (n + 40) c' → post (.dat (.int s)) (O.set k c')
def S_take' (svs : List SV) (O : Rs) (post : Post) : Prop := S_take (10 ^ 30) 16 svs O post
def R_lpart (ds : List PyData) (d : PyData) : Prop := ∃ (a : Nat) (s : Int), Tp a s ∧ ds = [.int a, .int s] ∧ d = .str (S (partL a s))
def R_sums (ds : List PyData) (d : PyData) : Prop := ∃ (rs : List Row) (v : List Int), rs.length ≤ 100 ∧ v.length ≤ 12 ∧ (∀ r ∈ rs, r.length ≤ 12 ∧ ∀ x ∈ r, x.natAbs ≤ 2 ^ 1000) ∧ (∀ y ∈ v, y.natAbs ≤ 2 ^ 200) ∧ ds = [.list (rs.map encL), encI v] ∧ d = encI (rs.map (dot · v))
def R_lies (ds : List PyData) (d : PyData) : Prop := ∃ (n : Int) (k : Nat), 1 ≤ k ∧ k ≤ 4000 ∧ ds = [.int n, .int k] ∧ d = .bool (decide (lies n k))
def S_values (svs : List SV) (O : Rs) (post : Post) : Prop := ∃ (k n m : Nat) (c : Ow), svs = [.ptr k, .dat (.int m)] ∧ O[k]? = some c ∧ FdO n c ∧ n + 200 ≤ 1000000 ∧ m ≤ 4 ∧ ∀ (v : List Int) (c' : Ow), v.length = m → (∀ y ∈ v, y.natAbs ≤ 10 ^ 30) → FdO (n + 200) c' → post (.ptr O.length) (O.set k c' ++ [.lst ((v.map PyData.int).map .dat)])
def S_names (svs : List SV) (O : Rs) (post : Post) : Prop := ∃ (k n : Nat) (c : Ow), svs = [.ptr k, .dat (.int 1)] ∧ O[k]? = some c ∧ (∀ c ∈ O, c.below O.length) ∧ FdO n c ∧ n + 200 ≤ 1000000 ∧ ∀ l c', Nm l → FdO (n + 200) c' → post (.dat (.list [.str (S l)])) (O.set k c')
theorem low_dvd {r : Row} : lowF r ≤ 40 ∧ ∀ x ∈ r, (2 : Int) ^ lowF r ∣ x := by
  have key : ∀ k, (∀ j, j < k → (r.any fun x => !decide (x % (2 * 2 ^ j) = 0)) = false) → ∀ x ∈ r, (2 : Int) ^ k ∣ x := fun k h x hx => by
    cases k with
    | zero => exact Int.one_dvd x
    | succ k =>
      have := h k (by omega)
      rw [List.any_eq_false] at this
      have := this x hx
      simp at this
      rw [Int.pow_succ, Int.mul_comm]
      exact Int.dvd_of_emod_eq_zero this
  unfold lowF
  cases e : (List.range 40).find? fun k => r.any fun x => !decide (x % (2 * 2 ^ k) = 0) with
  | none =>
    rw [List.find?_eq_none] at e
    exact ⟨Nat.le_refl _, key 40 fun j hj => by have := e j (List.mem_range.mpr hj); simpa using this⟩
  | some k =>
    have hk : k < 40 := List.mem_range.mp (List.mem_of_find?_eq_some e)
    refine ⟨by show k ≤ 40; omega, key k fun j hj => ?_⟩
    rw [List.find?_range_eq_some] at e
    simpa using e.2.2 j hj
theorem letter {i : Int} (h0 : 0 ≤ i) (h1 : i < 26) : ∃ c, atI (Str.ofString "abcdefghijklmnopqrstuvwxyz").cps.toList i = some c ∧ 97 ≤ c ∧ c ≤ 122 := by
  obtain ⟨n, rfl⟩ := Int.eq_ofNat_of_zero_le h0
  have hl : n < (Str.ofString "abcdefghijklmnopqrstuvwxyz").cps.toList.length := by
    have : (Str.ofString "abcdefghijklmnopqrstuvwxyz").cps.toList.length = 26 := by decide +kernel
    omega
  have all : ∀ c ∈ (Str.ofString "abcdefghijklmnopqrstuvwxyz").cps.toList, 97 ≤ c ∧ c ≤ 122 := by decide +kernel
  exact ⟨_, atI_nat (List.getElem?_eq_getElem hl), all _ (List.getElem_mem hl)⟩
section
variable {P : Program} {w : World} {K : PySem.W.Frag} {mg : Str → Option Value} {base : Heap} {C : Addr}
theorem cal_take (B : Bi mg) (D : Df K mg "_law_take" "_law_take" (top 123) ["_law_feed_here", "_law_many"]) : Cal P w K mg base "_law_take" 5 ["_law_feed_here", "_law_many"] (spS K S_take') := by
  have c0 := cal_take0 (P := P) (w := w) (base := base) B D
  have c1 := cal_takeS B D (by decide) (by decide) (by decide) c0
  have c2 := cal_takeS B D (by decide) (by decide) (by decide) c1
  have c3 := cal_takeS B D (by decide) (by decide) (by decide) c2
  have c4 := cal_takeS B D (by decide) (by decide) (by decide) c3
  refine c4.impS fun svs O post h => ?_
  obtain ⟨k, n, M, c, h1, h2, h3, h4, h5, h6, h7⟩ := h
  exact ⟨k, n, M, c, h1, h2, h3, h4, Int.le_trans h5 (by decide), h6, h7⟩
theorem sc_124 : FnScope ["_law_row", "_law_k", "_law_part_here"] ["_law_row"] (defScope (top 124)) := ⟨rfl, rfl, rfl, by decide +kernel, rfl, by decide +kernel, by decide +kernel⟩
theorem sc_125 : FnScope ["_law_row", "_law_shift_here", "_law_part_here"] ["_law_row", "_law_shift_here"] (defScope (top 125)) := ⟨rfl, rfl, rfl, by decide +kernel, rfl, by decide +kernel, by decide +kernel⟩
theorem sc_126 : FnScope ["_law_feed_here", "_law_row", "_law_way"] ["_law_feed_here", "_law_row"] (defScope (top 126)) := ⟨rfl, rfl, rfl, by decide +kernel, rfl, by decide +kernel, by decide +kernel⟩
theorem sc_128 : FnScope ["_law_thing", "_law_shift_here"] ["_law_thing", "_law_shift_here"] (defScope (top 128)) := ⟨rfl, rfl, rfl, by decide +kernel, rfl, by decide +kernel, by decide +kernel⟩
theorem sc_131 : FnScope ["_law_rows", "_law_values_here", "_law_row", "_law_part_here", "_law_value"] ["_law_rows", "_law_values_here"] (defScope (top 131)) := ⟨rfl, rfl, rfl, by decide +kernel, rfl, by decide +kernel, by decide +kernel⟩
theorem sc_132 : FnScope ["_law_value", "_law_width"] ["_law_value", "_law_width"] (defScope (top 132)) := ⟨rfl, rfl, rfl, by decide +kernel, rfl, by decide +kernel, by decide +kernel⟩
theorem cal_low (B : Bi mg) (D : Df K mg "_law_low" "_law_low" (top 124) ["_law_row"]) : Cal P w K mg base "_law_low" 1 ["_law_row"] (spP K R_low) := by
  refine cal_P (N := ["_law_row", "_law_k", "_law_part_here"]) D sc_124 (by rintro ds d ⟨r, _, rfl, _⟩; rfl) (by decide) (fun f cdv A outer s H E hr ds d h => ?_)
  obtain ⟨r, hl, rfl, rfl⟩ := h
  show DS _ _ [.dat (encL r), .un, .un] [] _ _
  refine ds_for (die_pure (di_rng1 (m := 40) rfl B.range dp_int rfl (by decide) (by decide)) ⟨fun i ρ' O' => (∃ a b, ρ' = [.dat (encL r), a, b]) ∧ O' = [] ∧ ∀ j, j < i → (r.any fun x => !decide (x % (2 * 2 ^ j) = 0)) = false, ⟨⟨_, _, rfl⟩, rfl, fun j h => by omega⟩, ?_, ?_⟩)
  · rintro i d ρ' O' hx ⟨⟨a, b, rfl⟩, rfl, hall⟩
    obtain ⟨hi, rfl⟩ := rngD_get hx
    refine ⟨[(1, _)], dgn 1, nrm (ρ' := [.dat (encL r), .dat (.int (0 + (i : Nat))), b]) ?_⟩
    refine ds_ifR (dte_pure (dt_val (dp_any B (ns := r.map fun x => !decide (x % (2 * 2 ^ i) = 0)) (lcp [("_law_part_here", 2)] r .int (fun x => .bool (!decide (x % (2 * 2 ^ i) = 0))) (fun x => [(2, .int x)]) (di_list (dp_var 0)) (fun x _ s H C cl fp => dgn 2) (δ' := fun x => [some (encL r), some (.int (0 + (i : Nat))), some (.int x)]) (fun x hx s H C cl fp => ?_) (by rw [List.map_map]; rfl) (by omega)))) ⟨fun h => ?_, fun h => ds_nil ⟨⟨_, _, rfl⟩, rfl, fun j hj => ?_⟩⟩)
    · refine (dp_neI (dp_mod (dp_var 2) (dp_shl dp_int (dp_var 1) ?_) ?_) dp_int).is ?_
      · rw [show (0 : Int) + (i : Nat) = ((i : Nat) : Int) by omega]; exact shl_ok (n := 2) (by decide) (by omega)
      · exact Int.mul_pos (by decide) (p2pos _)
      · rw [show ((0 : Int) + (i : Nat)).toNat = i by omega]
    · rw [List.any_map] at h
      have h2 : (r.any fun x => !decide (x % (2 * 2 ^ i) = 0)) = true := h
      refine ret1 (dp_var 1) ?_
      have e : lowF r = i := by
        unfold lowF
        rw [List.find?_range_eq_some.mpr ⟨h2, List.mem_range.mpr hi, fun j hj => by rw [hall j hj]; rfl⟩]; rfl
      rw [e, show (0 : Int) + (i : Nat) = ((i : Nat) : Int) by omega]
    · by_cases hji : j < i
      · exact hall j hji
      · have : j = i := by omega
        subst this
        rw [List.any_map] at h
        exact h
  · rintro ρ' O' ⟨⟨a, b, rfl⟩, rfl, hall⟩
    refine ret1 (dp_int (n := 40)) ?_
    have e : lowF r = 40 := by
      unfold lowF
      rw [List.find?_eq_none.mpr fun j hj => by
        have := hall j (List.mem_range.mp hj)
        simpa using this]; rfl
    rw [e]; rfl
theorem cal_moved (D : Df K mg "_law_moved" "_law_moved" (top 125) ["_law_row", "_law_shift_here"]) : Cal P w K mg base "_law_moved" 1 ["_law_row", "_law_shift_here"] (spP K R_moved) := by
  refine cal_P (N := ["_law_row", "_law_shift_here", "_law_part_here"]) D sc_125 (by rintro ds d ⟨r, s, _, _, _, rfl, _⟩; rfl) (by decide) (fun f cdv A outer sh H E hr ds d h => ?_)
  obtain ⟨r, s, hl, hb, ⟨s1, s2⟩, rfl, rfl⟩ := h
  show DS _ _ [.dat (encL r), .dat (.int s), .un] [] _ _
  refine if1 (dt_ge (dp_var 1) dp_int) (fun h => ?_) (fun h => ?_)
  · have h0 : 0 ≤ s := of_decide_eq_true h
    refine ret1 (lcp [("_law_part_here", 2)] r .int (fun x => .int (shI x s)) (fun x => [(2, .int x)]) (di_list (dp_var 0)) (fun x _ s H C cl fp => dgn 2) (δ' := fun x => [some (encL r), some (.int s), some (.int x)]) (fun x hx sh H C cl fp => ?_) rfl (by omega)) ?_
    · refine (dp_shl (dp_var 2) (dp_var 1) ?_).is (by unfold shI; rw [if_pos h0])
      obtain ⟨m, rfl⟩ := Int.eq_ofNat_of_zero_le h0
      exact shl_ok (pow_lt (hb x hx)) (by omega)
    · unfold encL shR; rw [List.map_map]; rfl
  · have h0 : ¬ 0 ≤ s := of_decide_eq_false h
    refine ret1 (lcp [("_law_part_here", 2)] r .int (fun x => .int (shI x s)) (fun x => [(2, .int x)]) (di_list (dp_var 0)) (fun x _ s H C cl fp => dgn 2) (δ' := fun x => [some (encL r), some (.int s), some (.int x)]) (fun x hx sh H C cl fp => ?_) rfl (by omega)) ?_
    · exact (dp_shr (dp_var 2) (dp_neg (dp_var 1)) (by omega)).is (by unfold shI; rw [if_neg h0])
    · unfold encL shR; rw [List.map_map]; rfl
theorem cal_lshift (B : Bi mg) (c1 : Cal P w K mg base "_law_take" 5 ["_law_feed_here", "_law_many"] (spS K S_take')) (c2 : Cal P w K mg base "_law_low" 1 ["_law_row"] (spP K R_low)) (D : Df K mg "_law_shift" "_law_shift" (top 126) ["_law_feed_here", "_law_row"]) : Cal P w K mg base "_law_shift" 6 ["_law_feed_here", "_law_row"] (spS K S_shift) := by
  refine cal_S0 (N := ["_law_feed_here", "_law_row", "_law_way"]) D sc_126 (by rintro svs O post ⟨k, n, r, c, rfl, _⟩; rfl) (by decide) (fun f cdv A outer sh H E hr svs O post h => ?_)
  obtain ⟨k, n, r, c, rfl, hc, hF, hn, hl, hp⟩ := h
  have hk : k < O.length := (List.getElem?_eq_some_iff.mp hc).1
  show DS _ _ [.ptr k, .dat (encL r), .un] O _ _
  refine setE 2 (de_call c1 hr rfl (dae_cons (de_var 0 rfl (dae_cons (de_pure dp_int (dae_nil ⟨k, n, 7, c, rfl, hc, hF, by decide, by decide, by omega, fun y c' y0 y1 hF' => ?_⟩))))))
  have hc2 : (O.set k c')[k]? = some c' := List.getElem?_set_self hk
  show DS _ _ [.ptr k, .dat (encL r), .dat (.int y)] (O.set k c') _ _
  refine if1 (dt_lt (dp_var 2) dp_int) (fun _ => ?_) (fun _ => ?_)
  · refine ds_ret (de_call c1 hr rfl (dae_cons (de_var 0 rfl (dae_cons (de_pure dp_int (dae_nil ⟨k, n + 16, 5, c', rfl, hc2, hF', by decide, by decide, by omega, fun z c'' z0 z1 hF'' => ?_⟩))))))
    rw [List.set_set]
    exact hp z c'' (fun x _ => .inl z0) (by omega) (by omega) (hF''.mono (by omega))
  refine if1 (dt_eqI (dp_var 2) dp_int) (fun _ => ?_) (fun _ => ?_)
  · refine ds_ret (de_call c1 hr rfl (dae_cons (de_var 0 rfl (dae_cons (de_pure dp_int (dae_nil ⟨k, n + 16, 41, c', rfl, hc2, hF', by decide, by decide, by omega, fun z c'' z0 z1 hF'' => ?_⟩))))))
    rw [List.set_set]
    exact hp z c'' (fun x _ => .inl z0) (by omega) (by omega) (hF''.mono (by omega))
  refine if1 (dt_lt (dp_var 2) dp_int) (fun _ => ?_) (fun _ => ?_)
  · exact ret1 dp_int (hp 0 c' (fun x _ => .inl (Int.le_refl 0)) (by decide) (by decide) (hF'.mono (by omega)))
  obtain ⟨l1, l2⟩ := low_dvd (r := r)
  refine ds_ret (de_un un_neg (de_call c1 hr (by rfl) (dae_cons (de_var 0 rfl (dae_cons (de_pure (dp_add (dp_call c2 (hr.mono (by decide)) (by rfl) (da_cons (dp_var 1) da_nil) ⟨r, hl, rfl, rfl⟩) dp_int) (dae_nil ⟨k, n + 16, _, c', rfl, hc2, hF', by omega, Int.le_trans (show _ ≤ (41 : Int) by omega) (by decide), by omega, fun z c'' z0 z1 hF'' => ⟨_, _, rfl, ru_neg, ?_⟩⟩)))))))
  rw [List.set_set]
  refine hp (-z) c'' (fun x hx => ?_) (by omega) (by omega) (hF''.mono (by omega))
  rw [okS_iff]
  refine .inr (Int.dvd_trans (dvd_pow ?_) (l2 x hx))
  omega
theorem cal_lpart (B : Bi mg) (D : Df K mg "_law_part" "_law_part" (top 128) ["_law_thing", "_law_shift_here"]) : Cal P w K mg base "_law_part" 1 ["_law_thing", "_law_shift_here"] (spP K R_lpart) := by
  refine cal_P (N := ["_law_thing", "_law_shift_here"]) D sc_128 (by rintro ds d ⟨a, s, _, rfl, _⟩; rfl) (by decide) (fun f cdv A outer sh H E hr ds d h => ?_)
  obtain ⟨a, s, ⟨h1, h2⟩, rfl, rfl⟩ := h
  show DS _ _ [.dat (.int a), .dat (.int s)] [] _ _
  refine if1 (dt_eqI (dp_var 1) dp_int) (fun h => ?_) (fun h => ?_)
  · have h0 : s = 0 := of_decide_eq_true h
    subst h0
    refine ret1 (dp_strN B (dp_var 0) h1) ?_
    unfold partL; simp
  · have h0 : s ≠ 0 := of_decide_eq_false h
    have hl : (nl a).length ≤ 60 := nl_len (by decide) h1
    have hl2 : (nl s.natAbs).length ≤ 4 := nl_len (by decide) h2
    have hab : ((if s < 0 then -s else s) : Int) = ((s.natAbs : Nat) : Int) := by split <;> omega
    refine ret1 ((dp_addL (p := nl a ++ (if s < 0 then [62, 62] else [60, 60])) (dp_addL (p := nl a) (q := if s < 0 then [62, 62] else [60, 60]) (dp_strN B (dp_var 0) h1) (dp_ixL (dp_lst (da_cons (dp_lit [60, 60]) (da_cons (dp_lit [62, 62]) da_nil))) (dp_intB B (dp_lt (dp_var 1) dp_int)) ?_) ?_) (dp_strN (n := s.natAbs) B ((dp_abs B (dp_var 1)).is (by rw [hab])) (Nat.lt_of_lt_of_le h2 (by decide))) ?_)) ?_
    · by_cases hs : s < 0
      · rw [decide_eq_true hs, if_pos rfl, if_pos hs]; rfl
      · rw [decide_eq_false hs, if_neg hs]; rfl
    · have : (if s < 0 then [62, 62] else [60, 60] : List Nat).length = 2 := by split <;> rfl
      omega
    · have : (if s < 0 then [62, 62] else [60, 60] : List Nat).length = 2 := by split <;> rfl
      rw [List.length_append]; omega
    · unfold partL
      by_cases hs : s < 0
      · rw [if_pos hs, if_neg (by omega), if_pos hs, show s.natAbs = (-s).toNat by omega, List.append_assoc]; rfl
      · rw [if_neg hs, if_pos (by omega), show s.natAbs = s.toNat by omega, List.append_assoc]; rfl
theorem cal_sums (B : Bi mg) (D : Df K mg "_law_sums" "_law_sums" (top 131) ["_law_rows", "_law_values_here"]) : Cal P w K mg base "_law_sums" 1 ["_law_rows", "_law_values_here"] (spP K R_sums) := by
  refine cal_P (N := ["_law_rows", "_law_values_here", "_law_row", "_law_part_here", "_law_value"]) D sc_131 (by rintro ds d ⟨rs, v, _, _, _, _, rfl, _⟩; rfl) (by decide) (fun f cdv A outer sh H E hr ds d h => ?_)
  obtain ⟨rs, v, h1, h2, h3, h4, rfl, rfl⟩ := h
  show DS _ _ [.dat (.list (rs.map encL)), .dat (encI v), .un, .un, .un] [] _ _
  refine ret1 (lcp [("_law_row", 2)] rs encL (fun r => .int (dot r v)) (fun r => [(2, encL r)]) (di_list (dp_var 0)) (fun x _ s H C cl fp => dgn 2) (δ' := fun r => [some (.list (rs.map encL)), some (encI v), some (encL r), none, none]) (fun r hr sh H C cl fp => ?_) rfl (by omega)) ?_
  · refine (dp_sum B (ns := List.zipWith (· * ·) r v) (lcp [("_law_part_here", 3), ("_law_value", 4)] (r.zip v) (fun p => .tuple [.int p.1, .int p.2]) (fun p => .int (p.1 * p.2)) (fun p => [(3, .int p.1), (4, .int p.2)]) ?_ (fun p _ s H C cl fp => dg_tup rfl (dgs_cons (dgn 3) (dgs_cons (dgn 4) dgs_nil))) (δ' := fun p => [some (.list (rs.map encL)), some (encI v), some (encL r), some (.int p.1), some (.int p.2)]) (fun p hp s H C cl fp => ?_) ?_ ?_)).is rfl
    · have e : ((r.map PyData.int).zip (v.map PyData.int)).map (fun p => PyData.tuple [p.1, p.2]) = (r.zip v).map fun p => PyData.tuple [.int p.1, .int p.2] := by rw [List.zip_map, List.map_map]; rfl
      rw [← e]; exact di_zip2 B (dp_var 2) (dp_var 1) (.lst _) (.lst _)
    · obtain ⟨m1, m2⟩ := List.of_mem_zip hp
      exact dp_mul (dp_var 3) (dp_var 4) (mulx_ok (pow_lt ((h3 r hr).2 _ m1)) (pow_lt (h4 _ m2)) (by decide))
    · rw [List.zip, List.map_zipWith, List.map_zipWith]
    · rw [List.length_zip]; have := (h3 r hr).1; omega
  · unfold encI; rw [List.map_map]; rfl
theorem cal_lies (D : Df K mg "_law_lies" "_law_lies" (top 132) ["_law_value", "_law_width"]) : Cal P w K mg base "_law_lies" 1 ["_law_value", "_law_width"] (spP K R_lies) := by
  refine cal_P (N := ["_law_value", "_law_width"]) D sc_132 (by rintro ds d ⟨n, k, _, _, rfl, _⟩; rfl) (by decide) (fun f cdv A outer sh H E hr ds d h => ?_)
  obtain ⟨n, k, h1, h2, rfl, rfl⟩ := h
  show DS _ _ [.dat (.int n), .dat (.int k)] [] _ _
  have hs : CShl 1 ((k : Int) - 1) := by
    rw [show (k : Int) - 1 = ((k - 1 : Nat) : Int) by omega]; exact one_shl (by omega)
  refine ret1 (dp_chain op_le op_lt (dp_sub dp_int (dp_shl dp_int (dp_sub (dp_var 1) dp_int) hs)) (dp_var 0) (dp_shl dp_int (dp_sub (dp_var 1) dp_int) hs) rd_IB rd_IB) ?_
  rw [show ((k : Int) - 1).toNat = k - 1 by omega, Int.one_mul, Int.zero_sub]
  have e : (decide (-2 ^ (k - 1) ≤ n) && decide (n < 2 ^ (k - 1))) = decide (lies n k) := by
    rw [Bool.eq_iff_iff, Bool.and_eq_true, decide_eq_true_eq, decide_eq_true_eq, decide_eq_true_eq]; rfl
  rw [e]
end
end SS
set_option maxHeartbeats 4000000
set_option exponentiation.threshold 300
/-! The walks, fourteen: the law's own defs, three: names, values, lines. -/
namespace SS
open PySem PySem.Spec PyProof.Rows L2
open SX (S)
/-- list(zip(a, b)), a new list -/
theorem df_listzip {X : Cx} {δ : Dl} {a b : Expr} {p0 p1 pos cpos : Pos} {xs ys : List PyData} (B : Bi X.mg) (h1 : DP X a δ (.list xs)) (h2 : DP X b δ (.list ys)) (hxy : xs.length = ys.length) (hc : X.calm = true := by rfl) (hgl : Gl X "list" := by rfl) (hg : Gl X "zip" := by rfl) (hs : starEach [a, b] X.env = (false, eval a X.env) :: starEach [b] X.env := by rfl) (hs2 : starEach [b] X.env = [(false, eval b X.env)] := by rfl)
    (hsl : starEach [.Call (.Name "zip" p0) [a, b] [] cpos] X.env = (false, eval (.Call (.Name "zip" p0) [a, b] [] cpos) X.env) :: starEach [] X.env := by rfl) : DF X (.Call (.Name "list" p1) [.Call (.Name "zip" p0) [a, b] [] cpos] [] pos) δ ((xs.zip ys).map fun p => .tuple [p.1, p.2]) := fun F σ H sm sl Q q =>
  wE_of (pe_listzip hc hgl B.list hg B.zip pa_star hs (by rw [hs2]; rfl) hsl) (da_cons h1 (da_cons h2 da_nil hs2) hs F σ H sm sl _ fun vs F1 H1 x1 rs => by
    cases rs with
    | cons r1 t =>
      cases t with
      | cons r2 t =>
        cases t
        cases r1 with
        | @lst l1 us _ f1 s1 =>
          cases r2 with
          | @lst l2 ws _ f2 s2 =>
            refine ⟨l1, l2, us, ws, rfl, SqL.of (x1.s _ _ f1), SqL.of (x1.s _ _ f2), by rw [s1.len, s2.len, hxy], fun p ts n1 n2 n3 n4 n5 => ?_⟩
            have xa := xt_pairs ts (us.zip ws) x1 n4 n2
            have nP : putT2 H1 ts (us.zip ws) p = none := by rw [putT2_off ts _ _ n3]; exact n1
            have same1 : Same F1 (putT2 F1 ts (us.zip ws)) := fun b o e => by
              rw [putT2_off ts _ _ (fun z => by rw [x1.s.free (n2 b z)] at e; cases e)]
              exact e
            refine q p _ (putT2 F1 ts (us.zip ws)) _ ⟨xa.f, xa.h.trans (same_new nP), xa.s.trans (same_new nP), xa.n⟩ (xa.s.free nP) (xa.h.free nP) upd_same ?_
            exact reps_pairs _ _ _ _ _ (s1.mono same1) (s2.mono same1) (putT2_at ts (us.zip ws) F1 n5 n4))
/-! objects behind a change of one -/
section
variable {O L : Rs} {k i : Nat} {c c' x : Ow}
theorem ap0 (h : k < O.length) : (O.set k c ++ L)[k]? = some c := by rw [List.getElem?_append_left (by rw [List.length_set]; exact h)]; exact List.getElem?_set_self h
theorem ap0s (h : k < O.length) : (O.set k c ++ L).set k c' = O.set k c' ++ L := by rw [List.set_append_left _ _ (by rw [List.length_set]; exact h), List.set_set]
theorem ap1 : (O.set k c ++ L)[O.length + i]? = L[i]? := by rw [List.getElem?_append_right (by rw [List.length_set]; omega), List.length_set, Nat.add_sub_cancel_left]
theorem ap1s : (O.set k c ++ L).set (O.length + i) x = O.set k c ++ L.set i x := by rw [List.set_append_right _ _ (by rw [List.length_set]; omega), List.length_set, Nat.add_sub_cancel_left]
theorem ap1' : (O.set k c ++ [x])[O.length]? = some x := by have := ap1 (O := O) (L := [x]) (k := k) (i := 0) (c := c); rw [Nat.add_zero] at this; rw [this]; rfl
theorem ap1s' {y : Ow} : (O.set k c ++ [x]).set O.length y = O.set k c ++ [y] := by have := ap1s (O := O) (L := [x]) (k := k) (i := 0) (c := c) (x := y); rw [Nat.add_zero] at this; rw [this]; rfl
end
theorem FdO.below {n m : Nat} {c : Ow} (h : FdO n c) : c.below m := by
  obtain ⟨g, st, sp, rfl, _⟩ := h
  intro x hx
  obtain ⟨d, _, rfl⟩ := List.mem_map.mp hx
  trivial
theorem cut_fd {O D : Rs} {k n : Nat} {c' : Ow} {d : PyData} {post : Post} (hO : ∀ c ∈ O, c.below O.length) (hF : FdO n c') (hp : post (.dat d) (O.set k c')) : Cut O post (.dat d) (O.set k c' ++ D) := by
  have e : (O.set k c' ++ D).take O.length = O.set k c' := List.take_left' (by rw [List.length_set])
  refine ⟨O.length, Nat.le_refl _, trivial, ?_, ?_⟩
  · rw [e]
    intro c hc
    rcases List.mem_or_eq_of_mem_set hc with h | rfl
    · exact hO c h
    · exact hF.below
  · rw [e]; exact hp
theorem de_take {X : Cx} {ρ : List SV} {O : Rs} {post : Post} {e1 e2 : Expr} {p0 pos : Pos} {k n : Nat} {M : Int} {c : Ow} (c1 : Cal X.prog X.w X.K X.mg X.base "_law_take" 5 ["_law_feed_here", "_law_many"] (spS X.K S_take')) (hr : Room 5 X.A) (hM : DE X e2 ρ O fun sv O1 => sv = .dat (.int M) ∧ O1 = O) (hc : O[k]? = some c) (hF : FdO n c) (m1 : 1 ≤ M) (m2 : M ≤ 10 ^ 30) (hn : n + 16 ≤ 1000000)
    (h : ∀ r c', 0 ≤ r → r < M → FdO (n + 16) c' → post (.dat (.int r)) (O.set k c')) (hv : DE X e1 ρ O fun sv O1 => sv = .ptr k ∧ O1 = O := by exact de_var 0 rfl ⟨rfl, rfl⟩) (hg : Gl X "_law_take" := by rfl) (s1 : starEach [e1, e2] X.env = (false, eval e1 X.env) :: starEach [e2] X.env := by rfl) (s2 : starEach [e2] X.env = [(false, eval e2 X.env)] := by rfl) (hpl : (backTo pos (starEach [e2] X.env)).any (·.1) = false := by rfl) : DE X (.Call (.Name "_law_take" p0) [e1, e2] [] pos) ρ O post :=
  de_call c1 hr hg (dae_cons (hv.mono fun sv O1 q => by
    obtain ⟨rfl, rfl⟩ := q
    exact dae_cons (hM.mono fun sv O2 q => by
      obtain ⟨rfl, rfl⟩ := q
      exact dae_nil ⟨k, n, M, c, rfl, hc, hF, m1, m2, hn, h⟩) s2) s1) (by decide) s1 hpl
theorem pow30 : (10 : Nat) ^ 30 < 2 ^ 100 := by decide
theorem joinL_one : ∀ cs : List Nat, TL.joinL [] (cs.map fun c => [c]) = cs
  | [] => rfl
  | [c] => rfl
  | c :: d :: cs => by
    show [c] ++ [] ++ TL.joinL [] ((d :: cs).map fun c => [c]) = _
    rw [joinL_one (d :: cs)]; rfl
theorem cut_drop {α : Type} {xs : List α} {n : Nat} (h : n ≤ xs.length) : cutD xs (some (n : Int)) none = xs.drop n := by
  unfold cutD
  have e1 : HT.sIx xs.length 0 (some (n : Int)) = n := by rw [HT.sIx_nat]; omega
  have e2 : HT.sIx xs.length xs.length none = xs.length := rfl
  rw [e1, e2, List.take_of_length_le (by rw [List.length_drop]; omega)]
section
variable {P : Program} {w : World} {K : PySem.W.Frag} {mg : Str → Option Value} {base : Heap} {C : Addr}
theorem sc_130 : FnScope ["_law_feed_here", "_law_ins", "_law_far", "_law_k"] ["_law_feed_here", "_law_ins"] (defScope (top 130)) := ⟨rfl, rfl, rfl, by decide +kernel, rfl, by decide +kernel, by decide +kernel⟩
theorem sc_127 : FnScope ["_law_feed_here", "_law_many", "_law_base", "_law_at", "_law_first", "_law_found", "_law_k", "_law_sign"] ["_law_feed_here", "_law_many"] (defScope (top 127)) := ⟨rfl, rfl, rfl, by decide +kernel, rfl, by decide +kernel, by decide +kernel⟩
theorem cal_values (B : Bi mg) (c1 : Cal P w K mg base "_law_take" 5 ["_law_feed_here", "_law_many"] (spS K S_take')) (D : Df K mg "_law_values" "_law_values" (top 130) ["_law_feed_here", "_law_ins"]) : Cal P w K mg base "_law_values" 6 ["_law_feed_here", "_law_ins"] (spS K S_values) := by
  refine cal_S0 (N := ["_law_feed_here", "_law_ins", "_law_far", "_law_k"]) D sc_130 (by rintro svs O post ⟨k, n, m, c, rfl, _⟩; rfl) (by decide) (fun f cdv A outer sh H E hr svs O post h => ?_)
  obtain ⟨k, n, m, c, rfl, hc, hF, hn, hm, hp⟩ := h
  have hk : k < O.length := (List.getElem?_eq_some_iff.mp hc).1
  show DS _ _ [.ptr k, .dat (.int m), .un, .un] O _ _
  have p6 : (10 : Int) ^ (6 : Int).toNat = 1000000 := by decide
  have p30 : (10 : Int) ^ (30 : Int).toNat = 10 ^ 30 := by decide
  refine setE 2 (de_ix ix_list (de_pure (dp_lst (da_cons (dp_int (n := 4)) (da_cons (dp_pow (i := 10) (j := 6) dp_int dp_int ⟨by decide, by decide, by decide⟩) (da_cons (dp_pow (i := 10) (j := 30) dp_int dp_int ⟨by decide, by decide, by decide⟩) da_nil)))) ⟨_, rfl, de_take c1 hr (de_pure (dp_int (n := 3)) ⟨rfl, rfl⟩) hc hF (by decide) (by decide) (by omega) (fun r c' r0 r1 hF' => ?_)⟩))
  obtain ⟨far, hfar, f1, f2⟩ : ∃ far : Int, atI [PyData.int 4, .int (10 ^ (6 : Int).toNat), .int (10 ^ (30 : Int).toNat)] r = some (.int far) ∧ 1 ≤ far ∧ far ≤ 10 ^ 30 := by
    obtain rfl | rfl | rfl : r = 0 ∨ r = 1 ∨ r = 2 := by omega
    · exact ⟨_, rfl, by decide, by decide⟩
    · exact ⟨_, rfl, by decide, by decide⟩
    · exact ⟨_, rfl, by decide, by decide⟩
  refine ⟨_, _, rfl, rd_ixL hfar, ?_⟩
  show DS _ _ [.ptr k, .dat (.int m), .dat (.int far), .un] (O.set k c') _ _
  refine ds_ret (de_lcE (own := [("_law_k", 3)]) rfl (nd_ok (by kernel_rfl)) (blk_ok (by kernel_rfl)) (die_pure (di_rng1 (m := m) rfl B.range (dp_var 1) (by simp) (by omega) (by omega)) ⟨by simp [rngD]; omega, fun i O' => ∃ (v : List Int) (c'' : Ow), O' = O.set k c'' ++ [.lst ((v.map PyData.int).map .dat)] ∧ v.length = i ∧ (∀ y ∈ v, y.natAbs ≤ 10 ^ 30) ∧ FdO (n + 16 + 32 * i) c'', ⟨[], c', rfl, rfl, by simp, hF'⟩, ?_, ?_⟩))
  · rintro i x O' hx ⟨v, c2, rfl, hv, hb, hF2⟩
    obtain ⟨hi, rfl⟩ := rngD_get hx
    refine ⟨[(3, _)], by simp, fun s' H' C' cl' fp' => dgn 3, fun s' H' C' cl' fp' => ?_⟩
    show DE _ _ [.ptr k, .dat (.int m), .dat (.int far), .dat (.int (0 + (i : Nat)))] _ _
    refine de_bin op_mulX (de_take c1 hr (de_pure (dp_var 2) ⟨rfl, rfl⟩) (ap0 hk) hF2 f1 f2 (by omega) fun y c3 y0 y1 hF3 => ⟨_, rfl, ?_⟩)
    refine de_bin op_sub (de_pure (dp_int (n := 1)) ⟨_, rfl, ?_⟩)
    refine de_bin op_mulX (de_pure (dp_int (n := 2)) ⟨_, rfl, ?_⟩)
    rw [ap0s hk]
    refine de_take c1 hr (de_pure (dp_int (n := 2)) ⟨rfl, rfl⟩) (ap0 hk) hF3 (by decide) (by decide) (by omega) fun z c4 z0 z1 hF4 => ?_
    have hz : z = 0 ∨ z = 1 := by omega
    have hsg : (1 - 2 * z = 1) ∨ (1 - 2 * z = -1) := by omega
    have yb : y.natAbs < 2 ^ 100 := by
      have := pow30
      have e : ((10 ^ 30 : Nat) : Int) = 10 ^ 30 := by norm_cast
      omega
    have e30 : ((10 ^ 30 : Nat) : Int) = 10 ^ 30 := by norm_cast
    refine ⟨_, _, rfl, rd_CI (mulx_ok (a := 2) (b := 1) (by decide) (by omega) (by decide)), _, _, rfl, rd_II, _, _, rfl, rd_CI (mulx_ok (a := 100) (b := 1) yb (by omega) (by decide)), ?_⟩
    rw [ap0s hk, List.length_set]
    refine ⟨_, ap1', by rw [List.length_map, List.length_map]; omega, v ++ [y * (1 - 2 * z)], c4, by rw [ap1s', List.map_append, List.map_append]; rfl, by rw [List.length_append, hv]; rfl, fun u hu => ?_, hF4.mono (by omega)⟩
    rcases List.mem_append.mp hu with q | q
    · exact hb u q
    · rw [List.mem_singleton.mp q]
      rcases hsg with e | e <;> rw [e] <;> omega
  · rintro O' ⟨v, c2, rfl, hv, hb, hF2⟩
    rw [List.length_set]
    have hv2 : v.length = m := by rw [hv]; simp [rngD]
    exact hp v c2 hv2 hb (hF2.mono (by rw [← hv, hv2]; omega))
theorem cal_names (B : Bi mg) (c1 : Cal P w K mg base "_law_take" 5 ["_law_feed_here", "_law_many"] (spS K S_take')) (D : Df K mg "_law_names" "_law_names" (top 127) ["_law_feed_here", "_law_many"]) : Cal P w K mg base "_law_names" 6 ["_law_feed_here", "_law_many"] (spS K S_names) := by
  refine cal_S (N := ["_law_feed_here", "_law_many", "_law_base", "_law_at", "_law_first", "_law_found", "_law_k", "_law_sign"]) D sc_127 (by rintro svs O post ⟨k, n, c, rfl, _⟩; rfl) (by decide) (fun f cdv A outer sh H E hr svs O post h => ?_)
  obtain ⟨k, n, c, rfl, hc, hO, hF, hn, hp⟩ := h
  have hk : k < O.length := (List.getElem?_eq_some_iff.mp hc).1
  show DS _ _ [.ptr k, .dat (.int 1), .un, .un, .un, .un, .un, .un] O _ _
  refine setLE 2 [("_law_k", 6)] (die_rng1 rfl B.range (de_bin op_add (de_pure (dp_int (n := 1)) ⟨_, rfl, de_take c1 hr (de_pure (dp_int (n := 8)) ⟨rfl, rfl⟩) hc hF (by decide) (by decide) (by omega) fun r c' r0 r1 hF' => ⟨_, _, rfl, rd_II, 1 + r, rfl, by omega, by omega, ?_⟩⟩)))
  have hl8 : (rngD 0 (1 + r).toNat).length = (1 + r).toNat := by simp [rngD]
  refine ⟨by rw [hl8]; omega, fun i O' => ∃ (cs : List Nat) (c'' : Ow), O' = O.set k c'' ++ [.lst ((cs.map fun c => PyData.str ⟨#[c]⟩).map .dat)] ∧ cs.length = i ∧ (∀ c ∈ cs, 97 ≤ c ∧ c ≤ 122) ∧ FdO (n + 16 + 16 * i) c'', ⟨[], c', rfl, rfl, by simp, hF'⟩, ?_, ?_⟩
  · rintro i x O' hx ⟨cs, c2, rfl, hcs, hb, hF2⟩
    obtain ⟨hi, rfl⟩ := rngD_get hx
    refine ⟨[(6, _)], by simp, fun s' H' C' cl' fp' => dgn 6, fun s' H' C' cl' fp' => ?_⟩
    show DE _ _ [.ptr k, .dat (.int 1), .un, .un, .un, .un, .dat (.int (0 + (i : Nat))), .un] _ _
    refine de_ix ix_str (de_pure dp_str ⟨_, rfl, de_take c1 hr (de_pure (dp_int (n := 26)) ⟨rfl, rfl⟩) (ap0 hk) hF2 (by decide) (by decide) (by omega) fun y c3 y0 y1 hF3 => ?_⟩)
    obtain ⟨g, hg, g1, g2⟩ := letter y0 y1
    refine ⟨_, _, rfl, rd_ixS (by decide) hg, ?_⟩
    rw [ap0s hk, List.length_set]
    refine ⟨_, ap1', by rw [List.length_map, List.length_map]; omega, cs ++ [g], c3, by rw [ap1s', List.map_append, List.map_append]; rfl, by rw [List.length_append, hcs]; rfl, fun u hu => ?_, hF3.mono (by omega)⟩
    rcases List.mem_append.mp hu with q | q
    · exact hb u q
    · rw [List.mem_singleton.mp q]; exact ⟨g1, g2⟩
  rintro O' ⟨cs, c2, rfl, hcs, hb, hF2⟩
  rw [hl8] at hcs
  rw [List.length_set]
  refine ds_freeze O.length 2 (ds := cs.map fun c => PyData.str ⟨#[c]⟩) rfl ap1' ?_
  rw [ap1s']
  refine nrm (ρ' := [.ptr k, .dat (.int 1), .dat (.list (cs.map fun c => PyData.str ⟨#[c]⟩)), .un, .un, .un, .un, .un]) ?_
  have hcl : 1 ≤ cs.length ∧ cs.length ≤ 8 := by omega
  refine setE 3 (de_take c1 hr (M := (cs.length : Nat)) (de_pure ((dp_len B (dp_var 2)).is (by rw [List.length_map])) ⟨rfl, rfl⟩) (ap0 hk) hF2 (by omega) (Int.le_trans (show _ ≤ (8 : Int) by omega) (by decide)) (by omega) fun a c3 a0 a1 hF3 => ?_)
  obtain ⟨at_, rfl⟩ := Int.eq_ofNat_of_zero_le a0
  rw [ap0s hk]
  refine nrm (ρ' := [.ptr k, .dat (.int 1), .dat (.list (cs.map fun c => PyData.str ⟨#[c]⟩)), .dat (.int at_), .un, .un, .un, .un]) ?_
  refine setE 4 (de_take c1 hr (de_pure (dp_int (n := 26)) ⟨rfl, rfl⟩) (ap0 hk) hF3 (by decide) (by decide) (by omega) fun fi c4 f0 f1 hF4 => ?_)
  rw [ap0s hk]
  refine nrm (ρ' := [.ptr k, .dat (.int 1), .dat (.list (cs.map fun c => PyData.str ⟨#[c]⟩)), .dat (.int at_), .dat (.int fi), .un, .un, .un]) ?_
  refine setE 5 (de_nil ?_)
  rw [List.append_assoc, List.length_append, List.length_set]
  refine nrm (ρ' := [.ptr k, .dat (.int 1), .dat (.list (cs.map fun c => PyData.str ⟨#[c]⟩)), .dat (.int at_), .dat (.int fi), .ptr (O.length + 1), .un, .un]) ?_ (by rfl)
  refine ds_for (die_pure (di_rng1 (m := 1) rfl B.range (dp_var 1) rfl (by decide) (by decide)) ⟨fun i ρ' O' => (∃ x y, ρ' = [.ptr k, .dat (.int 1), .dat (.list (cs.map fun c => PyData.str ⟨#[c]⟩)), .dat (.int at_), .dat (.int fi), .ptr (O.length + 1), x, y]) ∧ ((i = 0 ∧ O' = O.set k c4 ++ [.dead, .lst []]) ∨ (i = 1 ∧ ∃ l, Nm l ∧ O' = O.set k c4 ++ [.dead, .lst ([PyData.str (S l)].map .dat)])), ⟨⟨_, _, rfl⟩, .inl ⟨rfl, rfl⟩⟩, ?_, ?_⟩)
  · rintro i d ρ' O' hx ⟨⟨x, y, rfl⟩, h⟩
    obtain ⟨hi, rfl⟩ := rngD_get hx
    have hi0 : i = 0 := by omega
    subst hi0
    obtain rfl : O' = O.set k c4 ++ [.dead, .lst []] := by
      rcases h with ⟨_, e⟩ | ⟨e, _⟩
      · exact e
      · cases e
    refine ⟨[(6, _)], dgn 6, nrm (ρ' := [.ptr k, .dat (.int 1), .dat (.list (cs.map fun c => PyData.str ⟨#[c]⟩)), .dat (.int at_), .dat (.int fi), .ptr (O.length + 1), .dat (.int 0), y]) ?_⟩
    have hm0 := Int.emod_nonneg (fi + 7 * 0) (show (26 : Int) ≠ 0 by decide)
    have hm1 := Int.emod_lt_of_pos (fi + 7 * 0) (show (0 : Int) < 26 by decide)
    obtain ⟨g, hg, g1, g2⟩ := letter hm0 hm1
    refine set1 7 (dp_ixS dp_str (dp_mod (dp_add (dp_var 4) (dp_mul (i := 7) dp_int (dp_var 6) (mul_small (a := 3) (b := 1) (by decide) (by decide) (by decide) (by decide) (by decide)))) (dp_int (n := 26)) (by decide)) (by decide) hg) ?_
    have hat : at_ < cs.length := by omega
    have e1 : ∀ l : List Nat, l.map (fun c => PyData.str ⟨#[c]⟩) = ((l.map fun c => [c]).map S).map PyData.str := fun l => by rw [List.map_map, List.map_map]; rfl
    have js : ∀ l : List Nat, Txt.join (S []) ((l.map fun c => [c]).map S) = S l := fun l => by rw [SX.join_S, joinL_one]
    have jl : ∀ l : List Nat, ((((l.map fun c => [c]).map S).map (·.length)).sum + ((l.map fun c => [c]).map S).length * (S []).length) ≤ l.length := fun l => by
      rw [SX.lens, SX.S_len, List.length_nil, Nat.mul_zero, Nat.add_zero, List.map_map]
      induction l with
      | nil => simp
      | cons a l ih => simp at ih ⊢; omega
    refine ds_expr (de_append (de_var 5 rfl ⟨O.length + 1, _, rfl, by rw [ap1]; rfl, de_pure (dp_addL (p := cs.take at_ ++ [g]) (dp_addL (p := cs.take at_) (q := [g]) ((dp_join (ys := ((cs.take at_).map fun c => [c]).map S) (dp_lit []) ((dp_slL (dp_var 2) do_none (do_some (dp_var 3))).is ?_) ?_).is (by rw [js])) (dp_var 7) ?_) ((dp_join (ys := ((cs.drop (at_ + 1)).map fun c => [c]).map S) (dp_lit []) ((dp_slL (dp_var 2) (do_some (dp_add (dp_var 3) dp_int)) do_none).is ?_) ?_).is (by rw [js])) ?_) ⟨[], by rw [ap1]; rfl, by decide, ds_nil ⟨⟨_, _, rfl⟩, .inr ⟨rfl, cs.take at_ ++ [g] ++ cs.drop (at_ + 1), ?_, ?_⟩⟩⟩⟩))
    · rw [cut_take (by rw [List.length_map]; omega), ← List.map_take, e1]
    · exact Nat.le_trans (jl _) (by rw [List.length_take]; omega)
    · rw [List.length_take]; simp; omega
    · rw [show (at_ : Int) + 1 = ((at_ + 1 : Nat) : Int) by omega, cut_drop (by rw [List.length_map]; omega), ← List.map_drop, e1]
    · exact Nat.le_trans (jl _) (by rw [List.length_drop]; omega)
    · rw [List.length_append, List.length_take, List.length_drop]; simp; omega
    · refine ⟨?_, ?_, fun c hc => ?_⟩
      · rw [List.length_append, List.length_append]; simp; omega
      · rw [List.length_append, List.length_append, List.length_take, List.length_drop]; simp; omega
      · rcases List.mem_append.mp hc with q | q
        · rcases List.mem_append.mp q with q | q
          · exact hb c (List.mem_of_mem_take q)
          · rw [List.mem_singleton.mp q]; exact ⟨g1, g2⟩
        · exact hb c (List.mem_of_mem_drop q)
    · rw [ap1s]; rfl
  · rintro ρ' O' ⟨⟨x, y, rfl⟩, h⟩
    obtain ⟨l, hl, rfl⟩ : ∃ l, Nm l ∧ O' = O.set k c4 ++ [.dead, .lst ([PyData.str (S l)].map .dat)] := by
      rcases h with ⟨e, _⟩ | ⟨_, e⟩
      · simp [rngD] at e
      · exact e
    refine ds_freeze (O.length + 1) 5 (ds := [PyData.str (S l)]) rfl (by rw [ap1]; rfl) ?_
    rw [ap1s]
    exact ret1 (dp_var 5) (cut_fd hO hF4 (hp l c4 hl (hF4.mono (by omega))))
end
end SS
set_option exponentiation.threshold 600
/-! The mathematics, eight: the webs that the law writes. -/
namespace SS
open PySem PyProof.Rows
/-- deeds as drawn -/
def NearD (up : Bool) (d : Deed) : Prop := d.s.natAbs ≤ 40 ∧ d.t.natAbs ≤ 40 ∧ (up = true → 0 ≤ d.s ∧ 0 ≤ d.t)
def NearO (up : Bool) (o : Out) : Prop := o.shift.natAbs ≤ 40 ∧ (o.sign = 1 ∨ o.sign = -1) ∧ (up = true → 0 ≤ o.shift)
structure GW (up : Bool) (x : Web) : Prop where
  i1 : 1 ≤ x.ins
  i4 : x.ins ≤ 4
  d9 : x.deeds.length ≤ 9
  o1 : 1 ≤ x.outs.length
  o4 : x.outs.length ≤ 4
  ds : okDs (unitRows x.ins) x.deeds
  os : ∀ o ∈ x.outs, okO x.rows o
  nd : ∀ d ∈ x.deeds, NearD up d
  no : ∀ o ∈ x.outs, NearO up o
section
variable {up : Bool} {x : Web}
theorem GW.ok (h : GW up x) : x.ok := ⟨h.i1, by have := h.i4; omega, by have := h.d9; omega, by have := h.o4; omega, h.ds, h.os⟩
theorem GW.near (h : GW up x) : Near 40 x := ⟨fun d hd => ⟨(h.nd d hd).1, (h.nd d hd).2.1⟩, fun o ho => (h.no o ho).1⟩
theorem near_bd {n : Nat} {ds : List Deed} (hl : ds.length ≤ 9) (h : ∀ d ∈ ds, d.s.natAbs ≤ 40 ∧ d.t.natAbs ≤ 40) : Bd 369 (rows n ds) :=
  (bd_grow (S := 40) ds _ 0 bd_units fun d hd => by have := h d hd; omega).mono (by omega)
theorem near_rows {w : Web} (hl : w.deeds.length ≤ 9) (h : Near 40 w) : Bd 369 w.rows := near_bd hl h.1
theorem bd_outs {w : Web} (hl : w.deeds.length ≤ 9) (h : Near 40 w) (hs : ∀ o ∈ w.outs, o.sign.natAbs ≤ 1) : Bd 409 w.outRows := by
  intro r hr y hy
  obtain ⟨o, ho, rfl⟩ := List.mem_map.mp hr
  unfold outRow shR at hy
  rw [List.map_map] at hy
  obtain ⟨z, hz, rfl⟩ := List.mem_map.mp hy
  obtain ⟨r1, m1, m2⟩ := getD_memR hz
  have h1 := shI_le (n := z) (s := o.shift) (k := 369) (S := 40) (near_rows hl h r1 m1 z m2) (by have := h.2 o ho; omega)
  show (o.sign * shI z o.shift).natAbs ≤ 2 ^ 409
  rw [Int.natAbs_mul]
  have h2 := hs o ho
  calc o.sign.natAbs * (shI z o.shift).natAbs ≤ 1 * (shI z o.shift).natAbs := Nat.mul_le_mul_right _ h2
    _ ≤ 2 ^ 409 := by rw [Nat.one_mul]; exact h1
theorem GW.outs_bd (h : GW up x) : Bd 409 x.outRows := bd_outs h.d9 h.near fun o ho => by
  rcases (h.no o ho).2.1 with e | e <;> rw [e] <;> decide
theorem GW.all_bd (h : GW up x) : Bd 409 (x.rows ++ x.outRows) := by
  intro r hr
  rcases List.mem_append.mp hr with q | q
  · exact (near_rows h.d9 h.near).mono (by decide) r q
  · exact h.outs_bd r q
theorem GW.len (h : GW up x) : ∀ r ∈ x.rows ++ x.outRows, r.length = x.ins := by
  intro r hr
  rcases List.mem_append.mp hr with q | q
  · exact rows_width h.ds r q
  · obtain ⟨o, ho, rfl⟩ := List.mem_map.mp q
    exact Pt.len ⟨h.os o ho, rfl⟩ (rows_width h.ds) (by show 0 < (rows x.ins x.deeds).length; rw [rows_len]; have := h.i1; omega)
/-! ### tidied: the same outs -/
structure Same2 (x y : Web) : Prop where
  ok : y.ok
  ins : y.ins = x.ins
  rows : y.outRows = x.outRows
  len : y.deeds.length ≤ x.deeds.length
theorem GW.pruned (h : GW up x) : Same2 x x.pruned := ⟨pruned_ok h.ok, rfl, pruned_rows h.ok, pruned_len h.ok⟩
theorem bare_all {w : Web} (ok : w.ok) (hl : w.deeds.length ≤ 9) (near : Near 40 w) : w.pruned.ok ∧ w.pruned.bare0.ok ∧ Same2 w w.bare := by
  have p := pruned_ok ok
  have n := pruned_near ok near
  have l := pruned_len ok
  obtain ⟨b1, b2, b3⟩ := bare0_all (B := 369) (S := 40) p n (near_rows (by omega) n) (by decide)
  refine ⟨p, b1, pruned_ok b1, rfl, ?_, ?_⟩
  · show w.pruned.bare0.pruned.outRows = _
    rw [pruned_rows b1, b2, pruned_rows ok]
  · show w.pruned.bare0.pruned.deeds.length ≤ _
    have := pruned_len b1
    omega
theorem GW.bare (h : GW up x) : x.pruned.ok ∧ x.pruned.bare0.ok ∧ Same2 x x.bare := bare_all h.ok h.d9 h.near
theorem GW.bare2 (h : GW up x) : x.pruned.ok ∧ x.pruned.pruned.ok ∧ x.pruned.pruned.bare0.ok ∧ Same2 x x.pruned.bare := by
  have p := h.pruned
  have d9 := h.d9
  have l := p.len
  obtain ⟨a, b, c⟩ := bare_all p.ok (by omega) (pruned_near h.ok h.near)
  exact ⟨p.ok, a, b, c.ok, rfl, by rw [c.rows, p.rows], by have := c.len; omega⟩
theorem Same2.vals {y : Web} {v : List Int} (h : Same2 x y) (ok : x.ok) (hv : v.length = x.ins) : y.outVals v = x.outVals v := by
  rw [outVals_rows h.ok (by rw [h.ins]; exact hv), outVals_rows ok hv, h.rows]
/-! ### turned -/
theorem GW.isUp (h : GW true x) : x.up := ⟨fun d hd => (h.nd d hd).2.2 rfl, fun o ho => (h.no o ho).2.2 rfl⟩
theorem GW.tall (h : GW true x) : Tall 400 x := by
  refine ⟨fun j => if j < x.ins then 0 else 40 * (min (j + 1 - x.ins) 10 : Nat), ⟨fun i => ?_, fun i => ?_, fun k d e => ?_⟩, fun o ho => ?_⟩
  · show (0 : Int) ≤ if i < x.ins then 0 else _
    split <;> omega
  · show (if i < x.ins then (0 : Int) else _) ≤ 400
    split <;> omega
  · obtain ⟨a1, a2, a3⟩ := ok_ab h.ds e
    obtain ⟨n1, n2, n3⟩ := h.nd d (List.mem_of_getElem? e)
    obtain ⟨u1, u2⟩ := n3 rfl
    have d9 := h.d9
    refine ⟨u1, u2, ?_, ?_, a1, a2⟩
    · show (if d.a < x.ins then (0 : Int) else 40 * (min (d.a + 1 - x.ins) 10 : Nat)) + d.s ≤ if x.ins + k < x.ins then (0 : Int) else 40 * (min (x.ins + k + 1 - x.ins) 10 : Nat)
      rw [if_neg (show ¬ x.ins + k < x.ins by omega)]
      split <;> omega
    · show (if d.b < x.ins then (0 : Int) else 40 * (min (d.b + 1 - x.ins) 10 : Nat)) + d.t ≤ if x.ins + k < x.ins then (0 : Int) else 40 * (min (x.ins + k + 1 - x.ins) 10 : Nat)
      rw [if_neg (show ¬ x.ins + k < x.ins by omega)]
      split <;> omega
  · obtain ⟨n1, n2, n3⟩ := h.no o ho
    have d9 := h.d9
    refine ⟨n3 rfl, fun hs => ?_⟩
    have hth : o.thing < x.ins + x.deeds.length := by
      have : x.rows.length = x.ins + x.deeds.length := rows_len
      rcases h.os o ho with q | q
      · subst q; exact absurd rfl hs
      · omega
    show (if o.thing < x.ins then (0 : Int) else 40 * (min (o.thing + 1 - x.ins) 10 : Nat)) + o.shift ≤ 400
    split <;> omega
theorem Tall.isUp {B : Int} {w : Web} (h : Tall B w) : w.up := by
  obtain ⟨H, hT, ho⟩ := h
  refine ⟨fun d hd => ?_, fun o h => (ho o h).1⟩
  obtain ⟨k, e⟩ := List.mem_iff_getElem?.mp hd
  have := hT.ds k d e
  exact ⟨this.1, this.2.1⟩
/-- turned about once, twice -/
structure Turns (x : Web) : Prop where
  ok1 : x.turned.ok
  up1 : x.turned.up
  ins1 : x.turned.ins = x.outs.length
  outs1 : x.turned.outs.length = x.ins
  at1 : ∀ i k, i < x.ins → k < x.outs.length → (x.turned.outRows.getD i []).getD k 0 = (x.outRows.getD k []).getD i 0
  ok2 : x.turned.turned.ok
  rows2 : x.turned.turned.outRows = x.outRows
theorem outRows_len {w : Web} : w.outRows.length = w.outs.length := by unfold Web.outRows; rw [List.length_map]
theorem outRow_wd {w : Web} (ok : w.ok) {k : Nat} (h : k < w.outs.length) : (w.outRows.getD k []).length = w.ins := by
  have i1 := ok.i1
  have hm : w.outRows.getD k [] ∈ w.outRows := getD_mem (by rw [outRows_len]; exact h)
  obtain ⟨o, ho, e⟩ := List.mem_map.mp hm
  rw [← e]
  exact Pt.len ⟨ok.os o ho, rfl⟩ (rows_width ok.ds) (by show 0 < (rows w.ins w.deeds).length; rw [rows_len]; omega)
theorem GW.turns (h : GW true x) : Turns x := by
  have d9 := h.d9
  have o1 := h.o1
  have o4 := h.o4
  have i1 := h.i1
  have i4 := h.i4
  obtain ⟨a1, a2, a3, a4, a5, a6⟩ := turned_all h.ok h.tall (by decide) (by decide) (by omega) (by omega)
  obtain ⟨b1, b2, b3, b4, b5, b6⟩ := turned_all a1 a2 (by decide) (by decide) (by omega) (by omega)
  refine ⟨a1, a2.isUp, a3, a4, a6, b1, ?_⟩
  have hl : x.turned.turned.outRows.length = x.outRows.length := by rw [outRows_len, outRows_len, b4, a3]
  refine List.ext_getElem? fun k => ?_
  by_cases hk : k < x.outs.length
  · have e1 : x.turned.turned.outRows[k]? = some (x.turned.turned.outRows.getD k []) := getD_of (by rw [hl, outRows_len]; exact hk)
    have e2 : x.outRows[k]? = some (x.outRows.getD k []) := getD_of (by rw [outRows_len]; exact hk)
    rw [e1, e2]
    congr 1
    have l1 : (x.turned.turned.outRows.getD k []).length = x.ins := by rw [outRow_wd b1 (by rw [b4, a3]; exact hk), b3, a4]
    have l2 := outRow_wd h.ok hk
    refine List.ext_getElem? fun i => ?_
    by_cases hi : i < x.ins
    · rw [getD_of (z := 0) (by omega : i < (x.turned.turned.outRows.getD k []).length), getD_of (z := 0) (by omega : i < (x.outRows.getD k []).length), b6 k i (by omega) (by omega), a6 i k hi hk]
    · rw [List.getElem?_eq_none (by omega), List.getElem?_eq_none (by omega)]
  · rw [List.getElem?_eq_none (by rw [hl, outRows_len]; omega), List.getElem?_eq_none (by rw [outRows_len]; omega)]
/-- run with 1 at one out, 0 at all others -/
theorem Turns.tells (h : Turns x) (ok : x.ok) {k : Nat} (hk : k < x.outs.length) : x.turned.outVals (unitRow x.outs.length k) = x.outRows.getD k [] := by
  rw [outVals_rows h.ok1 (by rw [unitRow_len, h.ins1])]
  have l2 := outRow_wd ok hk
  refine List.ext_getElem? fun i => ?_
  by_cases hi : i < x.ins
  · rw [List.getElem?_map, getD_of (z := []) (by rw [outRows_len, h.outs1]; exact hi : i < x.turned.outRows.length), getD_of (z := 0) (by omega : i < (x.outRows.getD k []).length), ← h.at1 i k hi hk]
    have l1 : (x.turned.outRows.getD i []).length = x.outs.length := by rw [outRow_wd h.ok1 (by rw [h.outs1]; exact hi), h.ins1]
    show some (dot _ _) = _
    have cm : ∀ (r v : List Int), dot r v = dot v r := fun r v => by unfold dot; rw [List.zipWith_comm]; congr 1; congr 1; funext a b; exact Int.mul_comm b a
    rw [cm, ← l1, dot_unit (by omega)]
  · rw [List.getElem?_eq_none (by rw [List.length_map, outRows_len, h.outs1]; omega), List.getElem?_eq_none (by omega)]
/-! ### prefixes are webs -/
theorem GW.pre (h : GW up x) (k : Nat) : (⟨x.ins, x.deeds.take k, []⟩ : Web).ok := ⟨h.i1, by have := h.i4; show x.ins ≤ 12; omega, by have := h.d9; show (x.deeds.take k).length ≤ 60; rw [List.length_take]; omega, by simp, okDs_take h.ds k, fun o ho => by cases ho⟩
theorem GW.pre2 (h : GW up x) (k : Nat) : (⟨x.ins, x.deeds, x.outs.take k⟩ : Web).ok := ⟨h.i1, by have := h.i4; show x.ins ≤ 12; omega, by have := h.d9; show x.deeds.length ≤ 60; omega, by have := h.o4; show (x.outs.take k).length ≤ 12; rw [List.length_take]; omega, h.ds, fun o ho => h.os o (List.mem_of_mem_take ho)⟩
/-! ### values -/
theorem GW.dot_bd (h : GW up x) {v : List Int} (hv : ∀ y ∈ v, y.natAbs ≤ 10 ^ 30) : ∀ r ∈ x.rows ++ x.outRows, (dot r v).natAbs ≤ 2 ^ 511 := by
  intro r hr
  have h1 := dot_bound (B := 100) (k := 409) (r := r) (v := v) (h.all_bd r hr) fun y hy => Nat.le_trans (hv y hy) (by decide)
  have h2 := h.len r hr
  have h4 := h.i4
  refine Nat.le_trans h1 ?_
  rw [h2]
  calc x.ins * 2 ^ (409 + 100) ≤ 4 * 2 ^ (409 + 100) := Nat.mul_le_mul_right _ h4
    _ = 2 ^ 511 := by decide
theorem GW.wide (h : GW up x) {v : List Int} (hl : v.length = x.ins) (hv : ∀ y ∈ v, y.natAbs ≤ 10 ^ 30) : 1 ≤ wfor x (same v) ∧ wfor x (same v) ≤ 3000 := by
  refine ⟨wfor_pos, (wfor_same (w := 3000) h.ok hl (by decide)).mpr fun n hn => ?_⟩
  rw [vals_rows h.ds hl, outVals_rows h.ok hl, ← List.map_append] at hn
  obtain ⟨r, hr, rfl⟩ := List.mem_map.mp hn
  have h1 := h.dot_bd hv r hr
  have h2 : (2 : Nat) ^ 511 < 2 ^ 2999 := Nat.pow_lt_pow_right (by decide) (by decide)
  have e : ((2 ^ 2999 : Nat) : Int) = (2 : Int) ^ (3000 - 1) := by norm_cast
  unfold lies
  rw [← e]
  omega
end
end SS
set_option maxHeartbeats 4000000
set_option exponentiation.threshold 3000
/-! The walks, fifteen: the law's lines. -/
namespace SS
open PySem PySem.Spec PyProof.Rows L2
open SX (S)
def encLs (R : List Row) : PyData := .list (R.map encL)
def encSs (L : List (List Nat)) : PyData := .list (L.map fun l => .str (S l))
def rl (R : List Row) : Ow := .lst ((R.map encL).map .dat)
def ll (L : List (List Nat)) : Ow := .lst ((L.map fun l => PyData.str (S l)).map .dat)
theorem rl_snoc {R : List Row} {r : Row} : Ow.lst ((R.map encL).map SV.dat ++ [.dat (encL r)]) = rl (R ++ [r]) := by unfold rl; rw [List.map_append, List.map_append]; rfl
theorem ll_snoc {L : List (List Nat)} {l : List Nat} : Ow.lst ((L.map fun l => PyData.str (S l)).map SV.dat ++ [.dat (.str (S l))]) = ll (L ++ [l]) := by unfold ll; rw [List.map_append, List.map_append]; rfl
def S_lines (svs : List SV) (O : Rs) (post : Post) : Prop := ∃ (k n m : Nat) (up : Bool) (c : Ow), svs = [.ptr k, .dat (.int m), .dat (.bool up)] ∧ O[k]? = some c ∧ (∀ c ∈ O, c.below O.length) ∧ FdO n c ∧ n + 5000 ≤ 1000000 ∧ 1 ≤ m ∧ m ≤ 4 ∧ ∀ x c', GW up x → x.ins = m → FdO (n + 5000) c' → post (.dat (.tuple [encSs x.linesL, encLs x.rows, encLs x.outRows])) (O.set k c')
theorem set_same {O : Rs} {k : Nat} {c : Ow} (h : O[k]? = some c) : O.set k c = O := by
  obtain ⟨hl, he⟩ := List.getElem?_eq_some_iff.mp h
  rw [← he, List.set_getElem_self]
section
variable {O L : Rs} {k : Nat} {c x y z : Ow}
theorem ap2 : (O.set k c ++ (x :: L))[O.length]? = some x := by have := ap1 (O := O) (L := x :: L) (k := k) (i := 0) (c := c); rw [Nat.add_zero] at this; rw [this]; rfl
theorem ap3 : (O.set k c ++ (x :: y :: L))[O.length + 1]? = some y := ap1
theorem ap4 : (O.set k c ++ (x :: y :: z :: L))[O.length + 2]? = some z := ap1
theorem ap2s {u : Ow} : (O.set k c ++ (x :: L)).set O.length u = O.set k c ++ (u :: L) := by have := ap1s (O := O) (L := x :: L) (k := k) (i := 0) (c := c) (x := u); rw [Nat.add_zero] at this; rw [this]; rfl
theorem ap3s {u : Ow} : (O.set k c ++ (x :: y :: L)).set (O.length + 1) u = O.set k c ++ (x :: u :: L) := ap1s
theorem ap4s {u : Ow} : (O.set k c ++ (x :: y :: z :: L)).set (O.length + 2) u = O.set k c ++ (x :: y :: u :: L) := ap1s
end
theorem rl_at {R : List Row} {a : Nat} (h : a < R.length) : atI ((R.map encL).map SV.dat) (a : Int) = some (.dat (encL (R.getD a []))) := atI_nat (by rw [List.getElem?_map, List.getElem?_map, getD_at (z := []) h]; rfl)
theorem rl_at' {R : List Row} {a : Nat} (h : a < R.length) : atI (R.map encL) (a : Int) = some (encL (R.getD a [])) := atI_nat (by rw [List.getElem?_map, getD_at (z := []) h]; rfl)
theorem zip_sgn2 {b : Bool} : ∀ (x y : Row), (List.zip x y).map (fun p => p.1 + sgn b * p.2) = List.zipWith (sg b) x y
  | [], _ => by simp
  | _ :: _, [] => by simp
  | p :: x, q :: y => by
    rw [List.zip_cons_cons, List.map_cons, List.zipWith_cons_cons, zip_sgn2 x y]
    congr 1
    cases b <;> simp [sgn, sg]; omega
theorem part_len2 {a : Nat} {s : Int} (h : Tp a s) : (partL a s).length ≤ 66 := part_len h.1 h.2
theorem lf_pairs {x y : Row} : lfs (((x.map PyData.int).zip (y.map PyData.int)).map fun p => PyData.tuple [p.1, p.2]) = true := by
  induction x generalizing y with
  | nil => rfl
  | cons a x ih => cases y with
    | nil => rfl
    | cons b y => exact ih
section
variable {P : Program} {w : World} {K : PySem.W.Frag} {mg : Str → Option Value} {base : Heap} {C : Addr}
theorem sc_129 : FnScope ["_law_feed_here", "_law_ins", "_law_up", "_law_rows", "_law_lines_here", "_law_k", "_law_a", "_law_b", "_law_s", "_law_t", "_law_word", "_law_sign", "_law_pairs", "_law_outs", "_law_thing", "_law_shift_here", "_law_i", "_law_one", "_law_other", "_law_part_here"] ["_law_feed_here", "_law_ins", "_law_up"] (defScope (top 129)) := ⟨rfl, rfl, rfl, by decide +kernel, rfl, by decide +kernel, by decide +kernel⟩
set_option maxHeartbeats 8000000 in
theorem cal_lines (B : Bi mg) (c1 : Cal P w K mg base "_law_take" 5 ["_law_feed_here", "_law_many"] (spS K S_take')) (c2 : Cal P w K mg base "_law_shift" 6 ["_law_feed_here", "_law_row"] (spS K S_shift)) (c3 : Cal P w K mg base "_law_part" 1 ["_law_thing", "_law_shift_here"] (spP K R_lpart)) (c4 : Cal P w K mg base "_law_moved" 1 ["_law_row", "_law_shift_here"] (spP K R_moved)) (D : Df K mg "_law_lines" "_law_lines" (top 129) ["_law_feed_here", "_law_ins", "_law_up"]) : Cal P w K mg base "_law_lines" 7 ["_law_feed_here", "_law_ins", "_law_up"] (spS K S_lines) := by
  refine cal_S (N := ["_law_feed_here", "_law_ins", "_law_up", "_law_rows", "_law_lines_here", "_law_k", "_law_a", "_law_b", "_law_s", "_law_t", "_law_word", "_law_sign", "_law_pairs", "_law_outs", "_law_thing", "_law_shift_here", "_law_i", "_law_one", "_law_other", "_law_part_here"]) D sc_129 (by rintro svs O post ⟨k, n, m, up, c, rfl, _⟩; rfl) (by decide) (fun f cdv A outer sh H E hr svs O post h => ?_)
  obtain ⟨k, n, m, up, c, rfl, hc, hO, hF, hn, m1, m4, hp⟩ := h
  have hk : k < O.length := (List.getElem?_eq_some_iff.mp hc).1
  have hr5 := hr.mono (j := 5) (by decide)
  have hr1 := hr.mono (j := 1) (by decide)
  show DS _ _ [.ptr k, .dat (.int m), .dat (.bool up), .un, .un, .un, .un, .un, .un, .un, .un, .un, .un, .un, .un, .un, .un, .un, .un, .un] O _ _
  have hz : (List.range m).length ≤ 1000000 := by rw [List.length_range]; omega
  refine setLO 3 [("_law_i", 16)] (List.range m) (fun i => .int i) (fun i => encL (unitRow m i)) (fun i => [(16, .int i)]) ?_ (fun i _ s H C cl fp => dgn 16) (δ' := fun i => [none, some (.int m), some (.bool up), none, none, none, none, none, none, none, none, none, none, none, none, none, some (.int i), none, none, none]) (fun i hi s H C cl fp => ?_) ?_ hz
  · rw [rng_enc]; exact di_rng1 rfl B.range (dp_var 1) (by simp) (by omega) (by omega)
  · refine lcp [("_law_k", 5)] (List.range m) (fun i => .int i) (fun k => .int (if k = i then 1 else 0)) (fun k => [(5, .int k)]) ?_ (fun k _ s H C cl fp => dgn 5) (fun k hk s H C cl fp => ?_) ?_ hz
    · rw [rng_enc]; exact di_rng1 rfl B.range (dp_var 1) (by simp) (by omega) (by omega)
    · exact (dp_intB B (dp_eqI (dp_var 5) (dp_var 16))).is (by simp; split <;> split <;> first | rfl | omega)
    · unfold unitRow; simp
  rw [show (List.range m).map (fun i => encL (unitRow m i)) = (unitRows m).map encL by unfold unitRows; rw [List.map_map]; rfl]
  refine setE 4 (de_own (df_lst (da_cons (dp_addL (p := [105, 110, 32]) (q := nl m) (dp_lit [105, 110, 32]) (dp_strN B (dp_var 1) (by omega)) (by have : (nl m).length ≤ 60 := nl_len (by decide) (by omega); simp; omega)) da_nil)) ?_)
  rw [List.append_assoc, List.length_append]
  refine nrm (ρ' := [.ptr k, .dat (.int m), .dat (.bool up), .ptr O.length, .ptr (O.length + 1), .un, .un, .un, .un, .un, .un, .un, .un, .un, .un, .un, .un, .un, .un, .un]) ?_ (by rfl)
  have hO0 : O ++ ([Ow.lst (((unitRows m).map encL).map .dat)] ++ [Ow.lst ([PyData.str (S ([105, 110, 32] ++ nl m))].map .dat)]) = O.set k c ++ [rl (unitRows m), ll [insL m]] := by rw [set_same hc]; rfl
  rw [hO0]
  refine ds_for (die_rng1 rfl B.range (de_take c1 hr5 (de_pure (dp_int (n := 10)) ⟨rfl, rfl⟩) (ap0 hk) hF (by decide) (by decide) (by omega) fun r c' r0 r1 hF' => ⟨r, rfl, by omega, by omega, ?_⟩))
  rw [ap0s hk]
  refine ⟨fun i ρ' O' => ∃ (ds : List Deed) (c'' : Ow), (∃ x5 x6 x7 x8 x9 x10 x11 x12 x13 x14 x15 x16 x17 x18 x19, ρ' = [.ptr k, .dat (.int m), .dat (.bool up), .ptr O.length, .ptr (O.length + 1), x5, x6, x7, x8, x9, x10, x11, x12, x13, x14, x15, x16, x17, x18, x19]) ∧ O' = O.set k c'' ++ [rl (rows m ds), ll (insL m :: ds.map deedL)] ∧ ds.length = i ∧ okDs (unitRows m) ds ∧ (∀ d ∈ ds, NearD up d) ∧ FdO (n + 16 + 200 * i) c'', ⟨[], c', ⟨_, _, _, _, _, _, _, _, _, _, _, _, _, _, _, rfl⟩, rfl, rfl, trivial, by simp, hF'⟩, ?_, ?_⟩
  · rintro i d ρ' O' hx ⟨ds, c2', ⟨x5, x6, x7, x8, x9, x10, x11, x12, x13, x14, x15, x16, x17, x18, x19, rfl⟩, rfl, hdl, hok, hnear, hF2⟩
    obtain ⟨hi, rfl⟩ := rngD_get hx
    have hi9 : i < 9 := by omega
    refine ⟨[(5, _)], dgn 5, nrm (ρ' := [.ptr k, .dat (.int m), .dat (.bool up), .ptr O.length, .ptr (O.length + 1), .dat (.int (0 + (i : Nat))), x6, x7, x8, x9, x10, x11, x12, x13, x14, x15, x16, x17, x18, x19]) ?_⟩
    have hRl : (rows m ds).length = m + i := by rw [rows_len, hdl]
    generalize hRe : rows m ds = R at hRl
    have hRw : ∀ r ∈ R, r.length = m := hRe ▸ rows_width hok
    have hRb : Bd 369 R := hRe ▸ near_bd (by omega) fun d hd => ⟨(hnear d hd).1, (hnear d hd).2.1⟩
    -- a
    refine setE 6 (de_take c1 hr5 (M := ((m + i : Nat) : Int)) (de_lenO rfl B.len (de_var 3 rfl ⟨rfl, ap2, by rw [List.length_map, List.length_map, hRl], rfl⟩)) (ap0 hk) hF2 (by omega) (Int.le_trans (show _ ≤ (100 : Int) by omega) (by decide)) (by omega) fun a c3' a0 a1 hF3 => ?_)
    obtain ⟨a, rfl⟩ := Int.eq_ofNat_of_zero_le a0
    rw [ap0s hk]
    have ha : a < R.length := by omega
    refine nrm (ρ' := [.ptr k, .dat (.int m), .dat (.bool up), .ptr O.length, .ptr (O.length + 1), .dat (.int (0 + (i : Nat))), .dat (.int a), x7, x8, x9, x10, x11, x12, x13, x14, x15, x16, x17, x18, x19]) ?_
    -- b
    refine setE 7 (de_bin op_sub (de_borrow [none, none, none, some (.list (R.map encL)), none, none, none, none, none, none, none, none, none, none, none, none, none, none, none, none] (.no (.no (.no (.yes (.ptr ap2 vds_map) (.no (.no (.no (.no (.no (.no (.no (.no (.no (.no (.no (.no (.no (.no (.no (.no .nil)))))))))))))))))))) (dp_sub (dp_len B (dp_var 3)) dp_int) rfl ⟨_, rfl, de_take c1 hr5 (de_borrow [none, none, none, some (.list (R.map encL)), none, none, none, none, none, none, none, none, none, none, none, none, none, none, none, none] (.no (.no (.no (.yes (.ptr ap2 vds_map) (.no (.no (.no (.no (.no (.no (.no (.no (.no (.no (.no (.no (.no (.no (.no (.no .nil)))))))))))))))))))) (dp_min2 B (dp_int (n := 2)) (dp_len B (dp_var 3))) rfl ⟨rfl, rfl⟩) (ap0 hk) hF3 ?_ ?_ (by omega) fun y c4' y0 y1 hF4 => ⟨_, _, rfl, rd_II, ?_⟩⟩))
    · rw [List.length_map, hRl]; split <;> omega
    · refine Int.le_trans (show _ ≤ (2 : Int) from ?_) (by decide)
      split <;> omega
    rw [List.length_map, hRl] at y1 ⊢
    obtain ⟨b, hb⟩ := Int.eq_ofNat_of_zero_le (show 0 ≤ ((m + i : Nat) : Int) - 1 - y by split at y1 <;> omega)
    rw [hb, ap0s hk]
    have hbl : b < R.length := by omega
    refine nrm (ρ' := [.ptr k, .dat (.int m), .dat (.bool up), .ptr O.length, .ptr (O.length + 1), .dat (.int (0 + (i : Nat))), .dat (.int a), .dat (.int b), x8, x9, x10, x11, x12, x13, x14, x15, x16, x17, x18, x19]) ?_
    -- s, t
    refine setE 8 (de_call c2 hr (by rfl) (dae_cons (de_var 0 rfl (dae_cons (de_item ap2 (de_var 3 rfl ⟨rfl, rfl⟩) (dp_var 6) (rl_at ha) (dae_nil ⟨k, _, R.getD a [], c4', rfl, ap0 hk, hF4, by omega, by rw [hRw _ (getD_mem ha)]; omega, fun s c5' os s1 s2 hF5 => ?_⟩))))))
    rw [ap0s hk]
    refine nrm (ρ' := [.ptr k, .dat (.int m), .dat (.bool up), .ptr O.length, .ptr (O.length + 1), .dat (.int (0 + (i : Nat))), .dat (.int a), .dat (.int b), .dat (.int s), x9, x10, x11, x12, x13, x14, x15, x16, x17, x18, x19]) ?_
    refine setE 9 (de_call c2 hr (by rfl) (dae_cons (de_var 0 rfl (dae_cons (de_item ap2 (de_var 3 rfl ⟨rfl, rfl⟩) (dp_var 7) (rl_at hbl) (dae_nil ⟨k, _, R.getD b [], c5', rfl, ap0 hk, hF5, by omega, by rw [hRw _ (getD_mem hbl)]; omega, fun t c6' ot t1 t2 hF6 => ?_⟩))))))
    rw [ap0s hk]
    refine nrm (ρ' := [.ptr k, .dat (.int m), .dat (.bool up), .ptr O.length, .ptr (O.length + 1), .dat (.int (0 + (i : Nat))), .dat (.int a), .dat (.int b), .dat (.int s), .dat (.int t), x10, x11, x12, x13, x14, x15, x16, x17, x18, x19]) ?_
    refine ds_if (mid := fun ρ' O' => ∃ s t : Int, okR (R.getD a []) s ∧ okR (R.getD b []) t ∧ s.natAbs ≤ 40 ∧ t.natAbs ≤ 40 ∧ (up = true → 0 ≤ s ∧ 0 ≤ t) ∧ ρ' = [.ptr k, .dat (.int m), .dat (.bool up), .ptr O.length, .ptr (O.length + 1), .dat (.int (0 + (i : Nat))), .dat (.int a), .dat (.int b), .dat (.int s), .dat (.int t), x10, x11, x12, x13, x14, x15, x16, x17, x18, x19] ∧ O' = O.set k c6' ++ [rl R, ll (insL m :: ds.map deedL)]) (dte_pure (dt_val (dp_var 2)) ⟨fun h => ?_, fun h => ?_⟩) ?_
    · refine set1 8 (dp_abs B (dp_var 8)) ?_
      refine set1 9 (dp_abs B (dp_var 9)) ?_
      refine ds_nil ⟨_, _, fun x _ => .inl ?_, fun x _ => .inl ?_, ?_, ?_, fun _ => ⟨?_, ?_⟩, rfl, rfl⟩ <;> split <;> omega
    · exact ds_nil ⟨s, t, os, ot, by omega, by omega, fun q => (by rw [q] at h; cases h), rfl, rfl⟩
    clear os ot s1 s2 t1 t2
    rintro ρ' O' ⟨s, t, os, ot, hs, ht, hup, rfl, rfl⟩
    -- word
    refine setE 10 (de_ix ix_str (de_pure dp_str ⟨_, rfl, de_take c1 hr5 (de_pure (dp_int (n := 2)) ⟨rfl, rfl⟩) (ap0 hk) hF6 (by decide) (by decide) (by omega) fun q c7' q0 q1 hF7 => ?_⟩))
    obtain ⟨less, hw⟩ : ∃ less : Bool, atI (Str.ofString "+-").cps.toList q = some (if less then 45 else 43) := by
      obtain rfl | rfl : q = 0 ∨ q = 1 := by omega
      · exact ⟨false, by decide +kernel⟩
      · exact ⟨true, by decide +kernel⟩
    refine ⟨_, _, rfl, rd_ixS (by decide) hw, ?_⟩
    rw [ap0s hk]
    refine nrm (ρ' := [.ptr k, .dat (.int m), .dat (.bool up), .ptr O.length, .ptr (O.length + 1), .dat (.int (0 + (i : Nat))), .dat (.int a), .dat (.int b), .dat (.int s), .dat (.int t), .dat (.str (S [if less then 45 else 43])), x11, x12, x13, x14, x15, x16, x17, x18, x19]) ?_ (by rfl)
    have tpa : Tp a s := ⟨Nat.lt_of_lt_of_le (show a < 100 by omega) (by decide), Nat.lt_of_le_of_lt hs (by decide)⟩
    have tpb : Tp b t := ⟨Nat.lt_of_lt_of_le (show b < 100 by omega) (by decide), Nat.lt_of_le_of_lt ht (by decide)⟩
    have la := part_len2 tpa
    have lb := part_len2 tpb
    -- the line
    refine ds_expr (de_append (de_var 4 rfl ⟨O.length + 1, _, rfl, ap3, de_pure ((dp_join (ys := [partL a s, [if less then 45 else 43], partL b t].map S) (dp_lit [32]) (dp_lst (da_cons (dp_call c3 hr1 (by rfl) (da_cons (dp_var 6) (da_cons (dp_var 8) da_nil)) ⟨a, s, tpa, rfl, rfl⟩) (da_cons (dp_var 10) (da_cons (dp_call c3 hr1 (by rfl) (da_cons (dp_var 7) (da_cons (dp_var 9) da_nil)) ⟨b, t, tpb, rfl, rfl⟩) da_nil)))) ?_).is (d' := .str (S (deedL ⟨less, a, s, b, t⟩))) (by rw [SX.join_S, deed_words])) ⟨_, ap3, ?_, ?_⟩⟩))
    · rw [SX.lens, SX.S_len]; simp; omega
    · rw [List.length_map, List.length_map, List.length_cons, List.length_map]; omega
    rw [ap3s, ll_snoc]
    refine set1 11 (dp_ixL (d := .int (sgn less)) (dp_lst (da_cons dp_int (da_cons (dp_neg dp_int) da_nil))) (dp_intB B (dp_eqS (dp_var 10) (dp_lit [45]))) (by cases less <;> rfl)) ?_
    have hba : ∀ x ∈ R.getD a [], x.natAbs ≤ 2 ^ 1000 := fun x hx => up_pow (by decide) (hRb _ (getD_mem ha) x hx)
    have hbb : ∀ x ∈ R.getD b [], x.natAbs ≤ 2 ^ 1000 := fun x hx => up_pow (by decide) (hRb _ (getD_mem hbl) x hx)
    refine setE 12 (de_borrowF [none, none, none, some (.list (R.map encL)), none, none, some (.int a), some (.int b), some (.int s), some (.int t), none, none, none, none, none, none, none, none, none, none] (.no (.no (.no (.yes (.ptr ap2 vds_map) (.no (.no (.yes (.dat _) (.yes (.dat _) (.yes (.dat _) (.yes (.dat _) (.no (.no (.no (.no (.no (.no (.no (.no (.no (.no .nil)))))))))))))))))))) (df_listzip (xs := (shR (R.getD a []) s).map .int) (ys := (shR (R.getD b []) t).map .int) B (dp_call c4 hr1 (by rfl) (da_cons (dp_ixL (dp_var 3) (dp_var 6) (rl_at' ha)) (da_cons (dp_var 8) da_nil)) ⟨R.getD a [], s, by rw [hRw _ (getD_mem ha)]; omega, hba, by omega, rfl, rfl⟩) (dp_call c4 hr1 (by rfl) (da_cons (dp_ixL (dp_var 3) (dp_var 7) (rl_at' hbl)) (da_cons (dp_var 9) da_nil)) ⟨R.getD b [], t, by rw [hRw _ (getD_mem hbl)]; omega, hbb, by omega, rfl, rfl⟩) ?_) lf_pairs ?_)
    · rw [List.length_map, List.length_map]; unfold shR; rw [List.length_map, List.length_map, hRw _ (getD_mem ha), hRw _ (getD_mem hbl)]
    have hzz : (List.zip ((shR (R.getD a []) s).map PyData.int) ((shR (R.getD b []) t).map PyData.int)).map (fun p => PyData.tuple [p.1, p.2]) = ((shR (R.getD a []) s).zip (shR (R.getD b []) t)).map fun p => PyData.tuple [.int p.1, .int p.2] := by rw [List.zip_map, List.map_map]; rfl
    rw [hzz]
    have hzl : ((shR (R.getD a []) s).zip (shR (R.getD b []) t)).length ≤ 1000000 := by
      rw [List.length_zip]; unfold shR; rw [List.length_map, List.length_map, hRw _ (getD_mem ha)]; omega
    have hsb : ∀ x ∈ shR (R.getD b []) t, x.natAbs ≤ 2 ^ 2000 := fun x hx => by
      obtain ⟨y, hy, rfl⟩ := List.mem_map.mp hx
      exact Nat.le_trans (shI_le (S := 40) (hbb y hy) (by omega)) (Nat.pow_le_pow_right (by decide) (by decide))
    have hsg : (sgn less).natAbs < 2 ^ 1 := by cases less <;> decide
    refine ds_expr (de_append (de_var 3 rfl ⟨O.length, _, rfl, ap2, de_pure ((lcp [("_law_one", 17), ("_law_other", 18)] ((shR (R.getD a []) s).zip (shR (R.getD b []) t)) (fun p => .tuple [.int p.1, .int p.2]) (fun p => .int (p.1 + sgn less * p.2)) (fun p => [(17, .int p.1), (18, .int p.2)]) (di_list (dp_var 12)) (fun p _ s H C cl fp => dg_tup rfl (dgs_cons (dgn 17) (dgs_cons (dgn 18) dgs_nil))) (fun p hp' s H C cl fp => ?_) rfl hzl).is (d' := encL (stepR R ⟨less, a, s, b, t⟩)) ?_) ⟨_, ap2, ?_, ds_nil ?_⟩⟩))
    · exact dp_add (dp_var 17) (dp_mul (dp_var 11) (dp_var 18) (mulx_ok hsg (pow_lt (hsb _ (List.of_mem_zip hp').2)) (by decide)))
    · show PyData.list _ = PyData.list ((List.zipWith (sg less) (shR (R.getD a []) s) (shR (R.getD b []) t)).map PyData.int)
      rw [← zip_sgn2, List.map_map]; rfl
    · rw [List.length_map, List.length_map]; omega
    · refine ⟨ds ++ [⟨less, a, s, b, t⟩], c7', ⟨_, _, _, _, _, _, _, _, _, _, _, _, _, _, _, rfl⟩, ?_, by rw [List.length_append, hdl]; rfl, okDs_snoc hok (by rw [hRe]; exact ⟨ha, hbl, ⟨show (-4000 : Int) ≤ s by omega, show s ≤ (4000 : Int) by omega⟩, ⟨show (-4000 : Int) ≤ t by omega, show t ≤ (4000 : Int) by omega⟩, os, ot⟩), fun d hd => ?_, hF7.mono (by omega)⟩
      · rw [ap2s, rl_snoc, rows_snoc, hRe, List.map_append]; rfl
      · rcases List.mem_append.mp hd with q | q
        · exact hnear d q
        · rw [List.mem_singleton.mp q]; exact ⟨hs, ht, hup⟩
  rintro ρ' O' ⟨ds, c2', ⟨x5, x6, x7, x8, x9, x10, x11, x12, x13, x14, x15, x16, x17, x18, x19, rfl⟩, rfl, hdl, hok, hnear, hF2⟩
  have hd9 : ds.length ≤ 9 := by rw [hdl]; simp [rngD]; omega
  have hF2' : FdO (n + 2016) c2' := hF2.mono (by rw [← hdl]; omega)
  clear hF2
  have hRl : (rows m ds).length = m + ds.length := rows_len
  generalize hRe : rows m ds = R at hRl
  have hRw : ∀ r ∈ R, r.length = m := hRe ▸ rows_width hok
  have hRb : Bd 369 R := hRe ▸ near_bd (by omega) fun d hd => ⟨(hnear d hd).1, (hnear d hd).2.1⟩
  generalize hL0 : insL m :: ds.map deedL = L0
  have hL0l : L0.length ≤ 100 := by rw [← hL0, List.length_cons, List.length_map]; omega
  refine setE 13 (de_nil ?_)
  rw [List.append_assoc, List.length_append, List.length_set]
  refine nrm (ρ' := [.ptr k, .dat (.int m), .dat (.bool up), .ptr O.length, .ptr (O.length + 1), x5, x6, x7, x8, x9, x10, x11, x12, .ptr (O.length + 2), x14, x15, x16, x17, x18, x19]) ?_ (by rfl)
  show DS _ _ _ (O.set k c2' ++ [rl R, ll L0, .lst []]) _ _
  refine ds_for (die_rng1 rfl B.range (de_bin op_add (de_pure (dp_int (n := 1)) ⟨_, rfl, de_take c1 hr5 (de_pure (dp_int (n := 4)) ⟨rfl, rfl⟩) (ap0 hk) hF2' (by decide) (by decide) (by omega) fun r c' r0 r1 hF' => ⟨_, _, rfl, rd_II, 1 + r, rfl, by omega, by omega, ?_⟩⟩)))
  rw [ap0s hk]
  refine ⟨fun i ρ' O' => ∃ (os : List Out) (c'' : Ow), (∃ x5 x6 x7 x8 x9 x10 x11 x12 x14 x15 x16 x17 x18 x19, ρ' = [.ptr k, .dat (.int m), .dat (.bool up), .ptr O.length, .ptr (O.length + 1), x5, x6, x7, x8, x9, x10, x11, x12, .ptr (O.length + 2), x14, x15, x16, x17, x18, x19]) ∧ O' = O.set k c'' ++ [rl R, ll (L0 ++ os.map outLine), rl (os.map (outRow R))] ∧ os.length = i ∧ (∀ o ∈ os, okO R o) ∧ (∀ o ∈ os, NearO up o) ∧ FdO (n + 2016 + 16 + 200 * i) c'', ⟨[], c', ⟨_, _, _, _, _, _, _, _, _, _, _, _, _, _, rfl⟩, by rw [List.map_nil, List.append_nil]; rfl, rfl, by simp, by simp, hF'⟩, ?_, ?_⟩
  · rintro i d ρ' O' hx ⟨os, c2', ⟨x5, x6, x7, x8, x9, x10, x11, x12, x14, x15, x16, x17, x18, x19, rfl⟩, rfl, hol, hok2, hno, hF2⟩
    obtain ⟨hi, rfl⟩ := rngD_get hx
    have hi4 : i < 4 := by omega
    refine ⟨[(5, _)], dgn 5, nrm (ρ' := [.ptr k, .dat (.int m), .dat (.bool up), .ptr O.length, .ptr (O.length + 1), .dat (.int (0 + (i : Nat))), x6, x7, x8, x9, x10, x11, x12, .ptr (O.length + 2), x14, x15, x16, x17, x18, x19]) ?_⟩
    refine setE 14 (de_bin op_sub (de_borrow [none, none, none, some (.list (R.map encL)), none, none, none, none, none, none, none, none, none, none, none, none, none, none, none, none] (.no (.no (.no (.yes (.ptr ap2 vds_map) (.no (.no (.no (.no (.no (.no (.no (.no (.no (.no (.no (.no (.no (.no (.no (.no .nil)))))))))))))))))))) (dp_sub (dp_len B (dp_var 3)) dp_int) rfl ⟨_, rfl, de_take c1 hr5 (de_borrow [none, none, none, some (.list (R.map encL)), none, none, none, none, none, none, none, none, none, none, none, none, none, none, none, none] (.no (.no (.no (.yes (.ptr ap2 vds_map) (.no (.no (.no (.no (.no (.no (.no (.no (.no (.no (.no (.no (.no (.no (.no (.no .nil)))))))))))))))))))) (dp_min2 B (dp_int (n := 3)) (dp_len B (dp_var 3))) rfl ⟨rfl, rfl⟩) (ap0 hk) hF2 ?_ ?_ (by omega) fun y c4' y0 y1 hF4 => ⟨_, _, rfl, rd_II, ?_⟩⟩))
    · rw [List.length_map, hRl]; split <;> omega
    · refine Int.le_trans (show _ ≤ (3 : Int) from ?_) (by decide)
      split <;> omega
    rw [List.length_map, hRl] at y1 ⊢
    obtain ⟨b, hb⟩ := Int.eq_ofNat_of_zero_le (show 0 ≤ ((m + ds.length : Nat) : Int) - 1 - y by split at y1 <;> omega)
    rw [hb, ap0s hk]
    have hbl : b < R.length := by omega
    refine nrm (ρ' := [.ptr k, .dat (.int m), .dat (.bool up), .ptr O.length, .ptr (O.length + 1), .dat (.int (0 + (i : Nat))), x6, x7, x8, x9, x10, x11, x12, .ptr (O.length + 2), .dat (.int b), x15, x16, x17, x18, x19]) ?_
    refine setE 15 (de_call c2 hr (by rfl) (dae_cons (de_var 0 rfl (dae_cons (de_item ap2 (de_var 3 rfl ⟨rfl, rfl⟩) (dp_var 14) (rl_at hbl) (dae_nil ⟨k, _, R.getD b [], c4', rfl, ap0 hk, hF4, by omega, by rw [hRw _ (getD_mem hbl)]; omega, fun t c6' ot t1 t2 hF6 => ?_⟩))))))
    rw [ap0s hk]
    refine nrm (ρ' := [.ptr k, .dat (.int m), .dat (.bool up), .ptr O.length, .ptr (O.length + 1), .dat (.int (0 + (i : Nat))), x6, x7, x8, x9, x10, x11, x12, .ptr (O.length + 2), .dat (.int b), .dat (.int t), x16, x17, x18, x19]) ?_
    refine ds_if (mid := fun ρ' O' => ∃ t : Int, okR (R.getD b []) t ∧ t.natAbs ≤ 40 ∧ (up = true → 0 ≤ t) ∧ ρ' = [.ptr k, .dat (.int m), .dat (.bool up), .ptr O.length, .ptr (O.length + 1), .dat (.int (0 + (i : Nat))), x6, x7, x8, x9, x10, x11, x12, .ptr (O.length + 2), .dat (.int b), .dat (.int t), x16, x17, x18, x19] ∧ O' = O.set k c6' ++ [rl R, ll (L0 ++ os.map outLine), rl (os.map (outRow R))]) (dte_pure (dt_val (dp_var 2)) ⟨fun h => ?_, fun h => ?_⟩) ?_
    · refine set1 15 (dp_abs B (dp_var 15)) ?_
      refine ds_nil ⟨_, fun x _ => .inl ?_, ?_, fun _ => ?_, rfl, rfl⟩ <;> split <;> omega
    · exact ds_nil ⟨t, ot, by omega, fun q => (by rw [q] at h; cases h), rfl, rfl⟩
    clear ot t1 t2
    rintro ρ' O' ⟨t, ot, ht, hup, rfl, rfl⟩
    refine setE 11 (de_bin op_sub (de_pure (dp_int (n := 1)) ⟨_, rfl, de_bin op_mulX (de_pure (dp_int (n := 2)) ⟨_, rfl, de_take c1 hr5 (de_pure (dp_int (n := 2)) ⟨rfl, rfl⟩) (ap0 hk) hF6 (by decide) (by decide) (by omega) fun q c7' q0 q1 hF7 => ⟨_, _, rfl, rd_CI (mulx_ok (a := 2) (b := 1) (by decide) (by omega) (by decide)), _, _, rfl, rd_II, ?_⟩⟩)⟩))
    rw [ap0s hk]
    obtain ⟨sn, hsn, hpm⟩ : ∃ sn : Int, 1 - 2 * q = sn ∧ (sn = 1 ∨ sn = -1) := ⟨_, rfl, by omega⟩
    rw [hsn]
    refine nrm (ρ' := [.ptr k, .dat (.int m), .dat (.bool up), .ptr O.length, .ptr (O.length + 1), .dat (.int (0 + (i : Nat))), x6, x7, x8, x9, x10, .dat (.int sn), x12, .ptr (O.length + 2), .dat (.int b), .dat (.int t), x16, x17, x18, x19]) ?_
    have tpb : Tp b t := ⟨Nat.lt_of_lt_of_le (show b < 100 by omega) (by decide), Nat.lt_of_le_of_lt ht (by decide)⟩
    have lb := part_len2 tpb
    refine ds_expr (de_append (de_var 4 rfl ⟨O.length + 1, _, rfl, ap3, de_pure ((dp_addL (p := [111, 117, 116, 32] ++ (if sn = -1 then [45] else [])) (q := partL b t) (dp_addL (p := [111, 117, 116, 32]) (q := if sn = -1 then [45] else []) (dp_lit [111, 117, 116, 32]) (dp_ixL (dp_lst (da_cons (dp_lit [45]) (da_cons (dp_lit []) (da_cons (dp_lit []) da_nil)))) (dp_add (dp_var 11) dp_int) ?_) ?_) (dp_call c3 hr1 (by rfl) (da_cons (dp_var 14) (da_cons (dp_var 15) da_nil)) ⟨b, t, tpb, rfl, rfl⟩) ?_).is (d' := .str (S (outLine ⟨b, t, sn⟩))) ?_) ⟨_, ap3, ?_, ?_⟩⟩))
    · rcases hpm with e | e <;> rw [e] <;> rfl
    · split <;> decide
    · rw [List.length_append]
      have : (if sn = -1 then [45] else [] : List Nat).length ≤ 1 := by split <;> decide
      simp only [List.length_cons, List.length_nil]; omega
    · show PyData.str (S _) = PyData.str (S ([111, 117, 116, 32] ++ outL ⟨b, t, sn⟩))
      unfold outL
      rw [if_neg (show ¬ sn = 0 by omega), List.append_assoc]
    · rw [List.length_map, List.length_map, List.length_append, List.length_map]; omega
    rw [ap3s, ll_snoc]
    have hbb : ∀ x ∈ R.getD b [], x.natAbs ≤ 2 ^ 1000 := fun x hx => up_pow (by decide) (hRb _ (getD_mem hbl) x hx)
    have hsb : ∀ x ∈ shR (R.getD b []) t, x.natAbs ≤ 2 ^ 2000 := fun x hx => by
      obtain ⟨y, hy, rfl⟩ := List.mem_map.mp hx
      exact Nat.le_trans (shI_le (S := 40) (hbb y hy) (by omega)) (Nat.pow_le_pow_right (by decide) (by decide))
    have hsl : (shR (R.getD b []) t).length ≤ 1000000 := by unfold shR; rw [List.length_map, hRw _ (getD_mem hbl)]; omega
    have hlf : lfs ((shR (R.getD b []) t).map fun x => PyData.int (sn * x)) = true := by
      have e : (shR (R.getD b []) t).map (fun x => PyData.int (sn * x)) = ((shR (R.getD b []) t).map (sn * ·)).map PyData.int := by rw [List.map_map]; rfl
      rw [e]; exact lf_ints
    refine ds_expr (de_append (de_var 13 rfl ⟨O.length + 2, _, rfl, ap4, de_borrowF (ds := (shR (R.getD b []) t).map fun x => PyData.int (sn * x)) [none, none, none, some (.list (R.map encL)), none, none, none, none, none, none, none, some (.int sn), none, none, some (.int b), some (.int t), none, none, none, none] (.no (.no (.no (.yes (.ptr ap2 vds_map) (.no (.no (.no (.no (.no (.no (.no (.yes (.dat _) (.no (.no (.yes (.dat _) (.yes (.dat _) (.no (.no (.no (.no .nil)))))))))))))))))))) (lc [("_law_part_here", 19)] (shR (R.getD b []) t) .int (fun x => .int (sn * x)) (fun x => [(19, .int x)]) (di_list (dp_call c4 hr1 (by rfl) (da_cons (dp_ixL (dp_var 3) (dp_var 14) (rl_at' hbl)) (da_cons (dp_var 15) da_nil)) ⟨R.getD b [], t, by rw [hRw _ (getD_mem hbl)]; omega, hbb, by omega, rfl, rfl⟩)) (fun x _ s H C cl fp => dgn 19) (fun x hx' s H C cl fp => ?_) rfl hsl) hlf ⟨_, ap4, ?_, ds_nil ?_⟩⟩))
    · exact dp_mul (dp_var 11) (dp_var 19) (mulx_ok (a := 1) (by omega) (pow_lt (hsb x hx')) (by decide))
    · rw [List.length_map, List.length_map, List.length_map]; omega
    · refine ⟨os ++ [⟨b, t, sn⟩], c7', ⟨_, _, _, _, _, _, _, _, _, _, _, _, _, _, rfl⟩, ?_, by rw [List.length_append, hol]; rfl, fun o ho => ?_, fun o ho => ?_, hF7.mono (by omega)⟩
      · rw [ap4s]
        have e : (shR (R.getD b []) t).map (fun x => PyData.int (sn * x)) = (outRow R ⟨b, t, sn⟩).map PyData.int := by unfold outRow; rw [List.map_map]; rfl
        rw [e, show PyData.list ((outRow R ⟨b, t, sn⟩).map PyData.int) = encL (outRow R ⟨b, t, sn⟩) from rfl, rl_snoc, List.map_append, List.map_append, ← List.append_assoc]; rfl
      · rcases List.mem_append.mp ho with q | q
        · exact hok2 o q
        · rw [List.mem_singleton.mp q]; exact .inr ⟨hbl, ⟨show (-4000 : Int) ≤ t by omega, show t ≤ (4000 : Int) by omega⟩, ot, hpm⟩
      · rcases List.mem_append.mp ho with q | q
        · exact hno o q
        · rw [List.mem_singleton.mp q]; exact ⟨ht, hpm, hup⟩
  rintro ρ' O' ⟨os, c2', ⟨x5, x6, x7, x8, x9, x10, x11, x12, x14, x15, x16, x17, x18, x19, rfl⟩, rfl, hol, hok2, hno, hF2⟩
  have hol2 : os.length = (1 + r).toNat := by rw [hol]; simp [rngD]
  refine ds_freeze O.length 3 (ds := R.map encL) rfl ap2 ?_
  rw [ap2s]
  refine ds_freeze (O.length + 1) 4 (ds := (L0 ++ os.map outLine).map fun l => PyData.str (S l)) rfl ap3 ?_
  rw [ap3s]
  refine ds_freeze (O.length + 2) 13 (ds := (os.map (outRow R)).map encL) rfl ap4 ?_
  rw [ap4s]
  subst hRe hL0
  refine ret1 (dp_tup (da_cons (dp_var 4) (da_cons (dp_var 3) (da_cons (dp_var 13) da_nil)))) (cut_fd hO hF2 (hp ⟨m, ds, os⟩ c2' ⟨m1, m4, hd9, by show 1 ≤ os.length; omega, by show os.length ≤ 4; omega, hok, hok2, hnear, hno⟩ rfl (hF2.mono ?_)))
  rw [← hol, hol2]; omega
end
end SS
set_option maxHeartbeats 4000000
set_option exponentiation.threshold 3000
/-! The walks, sixteen: the law at the desk. -/
namespace SS
open PySem PySem.Spec PyProof.Rows L2
open SX (S)
def Closed (O : Rs) : Prop := ∀ c ∈ O, c.below O.length
theorem Closed.set {O : Rs} {j : Nat} {u : Option (List Nat × Web)} (h : Closed O) : Closed (O.set j (.dK (tabO u))) := by
  intro c hc
  rw [List.length_set]
  rcases List.mem_or_eq_of_mem_set hc with q | rfl
  · exact h c q
  · exact tab_below _ _
theorem de_say {X : Cx} {ρ : List SV} {O : Rs} {post : Post} {C : Addr} {e1 e2 : Expr} {apos pos : Pos} {pl : Sem Bool} {k j : Nat} {t u : Option (List Nat × Web)} {z r : List Nat} {ws : List Wd} (m : MCal X.prog X.w X.K X.mg X.base C "say" 9 ["self", "row"] (spS X.K (S_say C))) (hr : Room 9 X.A) (hO : Closed O) (hD : Dk C O k j t) (he : DP X e2 (view ρ) (.str (S (sayL z ws)))) (hK : Kd z ws) (hW : ∀ w ∈ ws, Tw t w.c w.l w.d ∧ 32 ∉ w.l) (hz : 32 ∉ z) (hl : (sayL z ws).length ≤ 100000) (hS : Sy t z (ws.map (·.c)) ws u r)
    (hp : post (.dat (.str (S r))) (O.set j (.dK (tabO u)))) (hv : DE X e1 ρ O fun sv O1 => sv = .ptr k ∧ O1 = O := by exact de_var 0 rfl ⟨rfl, rfl⟩) (hst : starEach [e2] X.env = (false, eval e2 X.env) :: starEach [] X.env := by rfl) (hpl : (backTo pos (starEach [] X.env)).any (·.1) = false := by rfl)
    (ht : eval (.Call (.Attribute e1 "say" apos) [e2] [] pos) X.env = (do
      let ov ← eval e1 X.env
      standAt apos.atName
      let (f, first) ← holding [ov] (getMethod ov "say" pl)
      callWith pos f first (backTo pos (starEach [e2] X.env)) (backToKw pos (keywordEach [] X.env))) := by rfl) : DE X (.Call (.Attribute e1 "say" apos) [e2] [] pos) ρ O post :=
  de_meth m hr (hv.mono fun sv O1 q => by
    obtain ⟨rfl, rfl⟩ := q
    exact ⟨k, _, rfl, hD.i, by simp; decide +kernel, dae_cons (de_pure he (dae_nil ⟨k, j, t, u, z, r, ws, rfl, hO, hD, hK, hW, hz, hl, hS, hp⟩)) hst⟩) hst hpl ht
theorem nm_sp {l : List Nat} (h : Nm l) : 32 ∉ l := fun q => by have := h.2.2 32 q; omega
theorem nl_sp {n : Nat} : 32 ∉ nl n := nl_not (.inl (by decide))
theorem il_sp {n : Int} : 32 ∉ il n := by
  unfold il
  split
  · intro h
    rcases List.mem_cons.mp h with q | q
    · cases q
    · exact nl_sp q
  · exact nl_sp
/-! the rows -/
def wdN (l : List Nat) : Wd := ⟨78, l, .str (S l)⟩
def wdH (l : List Nat) : Wd := ⟨72, l, .str (S l)⟩
def wdI (n : Nat) : Wd := ⟨73, nl n, .int n⟩
def wdW (n : Nat) : Wd := ⟨87, nl n, .int n⟩
def wdX (n : Int) : Wd := ⟨88, il n, .int n⟩
def wdP (a : Nat) (s : Int) : Wd := ⟨80, partL a s, .tuple [.int a, .int s]⟩
def wdO (b : Bool) : Wd := ⟨79, [if b then 45 else 43], .str (signS b)⟩
def wdS (o : Out) : Wd := ⟨83, outL o, encO o⟩
/-- the web of the first i lines behind the first -/
def preW (x : Web) (i : Nat) : Web := ⟨x.ins, x.deeds.take i, x.outs.take (i - x.deeds.length)⟩
theorem preW_ok {up : Bool} {x : Web} (h : GW up x) (i : Nat) : (preW x i).ok := by
  by_cases hi : i ≤ x.deeds.length
  · have e : preW x i = ⟨x.ins, x.deeds.take i, []⟩ := by unfold preW; rw [show i - x.deeds.length = 0 by omega, List.take_zero]
    rw [e]; exact h.pre i
  · have e : preW x i = ⟨x.ins, x.deeds, x.outs.take (i - x.deeds.length)⟩ := by unfold preW; rw [List.take_of_length_le (by omega)]
    rw [e]; exact h.pre2 _
theorem kd_web {l : List Nat} {n : Nat} : Kd [119, 101, 98] [wdN l, wdI n] := ⟨[78, 73], 0, 73, by simp [rowsT], by decide, by simp, by simp, by simp, by simp, rfl⟩
theorem kd_deed {l : List Nat} {a b : Nat} {s t : Int} {q : Bool} : Kd [100, 101, 101, 100] [wdH l, wdP a s, wdO q, wdP b t] := ⟨[72, 80, 79, 80], 0, 80, by simp [rowsT], by decide, by simp, by simp, by simp, by simp, rfl⟩
theorem kd_out {l : List Nat} {o : Out} : Kd [111, 117, 116] [wdH l, wdS o] := ⟨[72, 83], 0, 83, by simp [rowsT], by decide, by simp, by simp, by simp, by simp, rfl⟩
theorem kd_show {l : List Nat} : Kd [115, 104, 111, 119] [wdH l] := ⟨[72], 0, 72, by simp [rowsT], by decide, by simp, by simp, by simp, by simp, rfl⟩
theorem sgnS_sp {b : Bool} : 32 ∉ [if b then 45 else 43] := by cases b <;> decide
def S_told (C : Addr) (svs : List SV) (O : Rs) (post : Post) : Prop := ∃ (k j : Nat) (up : Bool) (x : Web) (n : List Nat), svs = [.ptr k, .dat (.str (S n)), .dat (encSs x.linesL)] ∧ Closed O ∧ Dk C O k j none ∧ Nm n ∧ GW up x ∧ post (.dat (.bool true)) (O.set j (.dK (tabO (some (n, x)))))
theorem nm_len {l : List Nat} (h : Nm l) : l.length ≤ 8 := h.2.1
theorem line_at2 {x : Web} {i : Nat} (h : i < x.deeds.length + x.outs.length) : (∃ d, i < x.deeds.length ∧ x.deeds[i]? = some d ∧ x.linesL[i + 1]? = some (deedL d)) ∨ ∃ o, x.deeds.length ≤ i ∧ x.outs[i - x.deeds.length]? = some o ∧ x.linesL[i + 1]? = some (outLine o) := by
  unfold Web.linesL
  rw [List.getElem?_cons_succ]
  by_cases hi : i < x.deeds.length
  · left
    refine ⟨_, hi, List.getElem?_eq_getElem hi, ?_⟩
    rw [List.getElem?_append_left (by rw [List.length_map]; exact hi), List.getElem?_map, List.getElem?_eq_getElem hi]; rfl
  · right
    have h2 : i - x.deeds.length < x.outs.length := by omega
    refine ⟨_, by omega, List.getElem?_eq_getElem h2, ?_⟩
    rw [List.getElem?_append_right (by rw [List.length_map]; omega), List.length_map, List.getElem?_map, List.getElem?_eq_getElem h2]; rfl
section
variable {P : Program} {w : World} {K : PySem.W.Frag} {mg : Str → Option Value} {base : Heap} {C : Addr}
theorem sc_133 : FnScope ["_law_desk", "_law_name", "_law_lines_here", "_law_at", "_law_outs", "_law_line"] ["_law_desk", "_law_name", "_law_lines_here"] (defScope (top 133)) := ⟨rfl, rfl, rfl, by decide +kernel, rfl, by decide +kernel, by decide +kernel⟩
theorem cal_ltold (B : Bi mg) (m : MCal P w K mg base C "say" 9 ["self", "row"] (spS K (S_say C))) (D : Df K mg "_law_told" "_law_told" (top 133) ["_law_desk", "_law_name", "_law_lines_here"]) : Cal P w K mg base "_law_told" 10 ["_law_desk", "_law_name", "_law_lines_here"] (spS K (S_told C)) := by
  refine cal_S0 (N := ["_law_desk", "_law_name", "_law_lines_here", "_law_at", "_law_outs", "_law_line"]) D sc_133 (by rintro svs O post ⟨k, j, up, x, n, rfl, _⟩; rfl) (by decide) (fun f cdv A outer sh H E hr svs O post h => ?_)
  obtain ⟨k, j, up, x, n, rfl, hO, hD, hn, hx, hp⟩ := h
  have hok := hx.ok
  have nsp := nm_sp hn
  have nle := nm_len hn
  have i1 := hx.i1
  have i4 := hx.i4
  show DS _ _ [.ptr k, .dat (.str (S n)), .dat (encSs x.linesL), .un, .un, .un] O _ _
  have l0 : atI (x.linesL.map fun l => PyData.str (S l)) 0 = some (.str (S (insL x.ins))) := by unfold Web.linesL; exact at0 _ _
  have cf : PyData.str (cutS (S (insL x.ins)) (some 3) none) = .str (S (nl x.ins)) := congrArg PyData.str (cut_from (p := [105, 110, 32]) (q := nl x.ins) (by rfl))
  have il60 : (nl x.ins).length ≤ 60 := nl_len (by decide) (by omega)
  have hins : (insL x.ins).length ≤ 200 := insL_len (by omega)
  have hsz : (S (insL x.ins)).length ≤ sizeLine := by rw [SX.S_len, sizeLine_eq]; omega
  refine ds_expr (de_say m hr hO hD ((dp_addL (p := [119, 101, 98, 32] ++ n ++ [32]) (dp_addL (p := [119, 101, 98, 32] ++ n) (dp_addL (dp_lit [119, 101, 98, 32]) (dp_var 1) (by simp; omega)) (dp_lit [32]) (by simp; omega)) ((dp_slS (dp_ixL (dp_var 2) dp_int l0) (do_some dp_int) do_none hsz).is cf) (by simp; omega)).is (d' := .str (S (sayL [119, 101, 98] [wdN n, wdI x.ins]))) (by simp [sayL, wdN, wdI, TL.joinL])) kd_web (u := some (n, ⟨x.ins, [], []⟩)) (r := [111, 107]) ?_ (by decide) ?_ (.web n x.ins _ rfl ⟨i1, by show x.ins ≤ 12; omega, by simp, by simp, trivial, by simp⟩ rfl) ?_)
  · intro w hw
    simp only [List.mem_cons, List.not_mem_nil, or_false] at hw
    rcases hw with rfl | rfl
    · exact ⟨.N n hn, nsp⟩
    · exact ⟨.K _ _ _ (.I x.ins i1 (by omega)), nl_sp⟩
  · simp [sayL, wdN, wdI, TL.joinL]; omega
  have hD1 : Dk C (O.set j (.dK (tabO (some (n, preW x 0))))) k j (some (n, preW x 0)) := hD.set
  have e0 : (⟨x.ins, [], []⟩ : Web) = preW x 0 := by unfold preW; rw [List.take_zero, Nat.zero_sub, List.take_zero]
  rw [e0]
  refine set1 3 (dp_intS B (n := x.ins) ((dp_slS (dp_ixL (dp_var 2) dp_int l0) (do_some dp_int) do_none hsz).is cf) (nl_read (by omega)) (by rw [SX.S_len]; omega)) ?_
  refine set1 4 dp_int ?_
  have hll : x.linesL.length = 1 + (x.deeds.length + x.outs.length) := by unfold Web.linesL; rw [List.length_cons, List.length_append, List.length_map, List.length_map]; omega
  have d9 := hx.d9
  have o4 := hx.o4
  refine ds_for (die_pure (di_list (dp_slL (dp_var 2) (do_some dp_int) do_none)) ⟨fun i ρ' O' => (∃ y, ρ' = [.ptr k, .dat (.str (S n)), .dat (encSs x.linesL), .dat (.int (x.ins + min i x.deeds.length : Nat)), .dat (.int (i - x.deeds.length : Nat)), y]) ∧ O' = O.set j (.dK (tabO (some (n, preW x i)))), ⟨⟨_, by rw [Nat.zero_min, Nat.zero_sub]; rfl⟩, rfl⟩, ?_, ?_⟩)
  · rintro i d ρ' O' hxi ⟨⟨y, rfl⟩, rfl⟩
    have hcut : cutD (x.linesL.map fun l => PyData.str (S l)) (some 1) none = (x.linesL.drop 1).map fun l => PyData.str (S l) := by
      rw [show (1 : Int) = ((1 : Nat) : Int) from rfl, cut_drop (by rw [List.length_map]; omega), ← List.map_drop]
    rw [hcut, List.getElem?_map, List.getElem?_drop] at hxi
    have hil : i < x.deeds.length + x.outs.length := by
      cases q : x.linesL[1 + i]? with
      | none => rw [q] at hxi; cases hxi
      | some l => have := (List.getElem?_eq_some_iff.mp q).1; omega
    have hOi : Closed (O.set j (.dK (tabO (some (n, preW x i))))) := hO.set
    have hDi : Dk C (O.set j (.dK (tabO (some (n, preW x i))))) k j (some (n, preW x i)) := hD.set
    rcases line_at2 hil with ⟨e, hi, he, hl⟩ | ⟨o, hi, ho, hl⟩
    · rw [Nat.add_comm 1 i, hl] at hxi
      obtain rfl : PyData.str (S (deedL e)) = d := by injection hxi
      have hte := hok.td e (List.mem_of_getElem? he)
      have hdl := deedL_len hte
      refine ⟨[(5, _)], dgn 5, nrm (ρ' := [.ptr k, .dat (.str (S n)), .dat (encSs x.linesL), .dat (.int (x.ins + min i x.deeds.length : Nat)), .dat (.int (i - x.deeds.length : Nat)), .dat (.str (S (deedL e)))]) ?_⟩
      have hsw : Txt.startswith (S (deedL e)) (S [111, 117, 116, 32]) = false := sw_no (by
        unfold deedL
        intro q
        have hne := part_ne (a := e.a) (s := e.s)
        cases hp : partL e.a e.s with
        | nil => exact hne hp
        | cons c l =>
          rw [hp] at q
          have := part_head (a := e.a) (s := e.s) (c := c) (by rw [hp]; rfl)
          simp at q
          omega) (by decide)
      have e1 : preW x (i + 1) = ⟨(preW x i).ins, (preW x i).deeds ++ [e], (preW x i).outs⟩ := by
        unfold preW
        rw [take_succ_snoc he, show i + 1 - x.deeds.length = 0 by omega, show i - x.deeds.length = 0 by omega]
      have hdlen : (preW x i).ins + (preW x i).deeds.length = x.ins + min i x.deeds.length := by unfold preW; rw [List.length_take]
      refine ds_if (mid := fun ρ' O' => (∃ y, ρ' = [.ptr k, .dat (.str (S n)), .dat (encSs x.linesL), .dat (.int (x.ins + min (i + 1) x.deeds.length : Nat)), .dat (.int (i + 1 - x.deeds.length : Nat)), y]) ∧ O' = O.set j (.dK (tabO (some (n, preW x (i + 1)))))) (dte_pure ((dt_val (dp_startswith (dp_var 5) (dp_lit [111, 117, 116, 32]))).is (q := false) hsw) ⟨(fun h => by cases h), fun _ => ?_⟩) (fun ρ' O' h => ds_nil h)
      refine ds_ifR (dte_cmp op_ne (de_say m hr hOi hDi ((dp_addL (p := [100, 101, 101, 100, 32] ++ n ++ [32]) (dp_addL (p := [100, 101, 101, 100, 32] ++ n) (dp_addL (dp_lit [100, 101, 101, 100, 32]) (dp_var 1) (by simp; omega)) (dp_lit [32]) (by simp; omega)) (dp_var 5) (by simp; omega)).is (d' := .str (S (sayL [100, 101, 101, 100] [wdH n, wdP e.a e.s, wdO e.less, wdP e.b e.t]))) (by simp [sayL, wdH, wdP, wdO, TL.joinL, deedL])) kd_deed (u := some (n, preW x (i + 1))) (r := nl (x.ins + min i x.deeds.length)) ?_ (by decide) ?_ ?_ ⟨_, rfl, de_pure (dp_strN B (dp_var 3) ?_) ⟨_, _, rfl, rd_neS, ?_⟩⟩))
      · intro w hw
        simp only [List.mem_cons, List.not_mem_nil, or_false] at hw
        rcases hw with rfl | rfl | rfl | rfl
        · exact ⟨.H n _ hn rfl, nsp⟩
        · exact ⟨.K _ _ _ (.P e.a e.s hte.1), part_not (.inl (by decide)) (by decide) (by decide)⟩
        · exact ⟨.K _ _ _ (.O e.less), sgnS_sp⟩
        · exact ⟨.K _ _ _ (.P e.b e.t hte.2), part_not (.inl (by decide)) (by decide) (by decide)⟩
      · have := part_len2 hte.1
        have := part_len2 hte.2
        simp [sayL, wdH, wdP, wdO, TL.joinL]; omega
      · rw [e1, ← hdlen]
        exact .deed n (preW x i) e _ rfl (preW_ok hx i) (by rw [← e1]; exact preW_ok hx (i + 1)) rfl
      · exact Nat.lt_of_lt_of_le (show _ < 100 by omega) (by decide)
      · rw [decide_eq_true rfl, List.set_set]
        refine ⟨(fun h => by cases h), fun _ => ?_⟩
        refine set1 3 (dp_add (dp_var 3) dp_int) (ds_nil ⟨⟨.dat (.str (S (deedL e))), ?_⟩, rfl⟩)
        rw [show ((x.ins + min i x.deeds.length : Nat) : Int) + 1 = (x.ins + min (i + 1) x.deeds.length : Nat) by omega, show i - x.deeds.length = i + 1 - x.deeds.length by omega]
    · rw [Nat.add_comm 1 i, hl] at hxi
      obtain rfl : PyData.str (S (outLine o)) = d := by injection hxi
      have hto := hok.to o (List.mem_of_getElem? ho)
      have hdl := outL_len hto
      have hdl2 : (outLine o).length = 4 + (outL o).length := by unfold outLine; rw [List.length_append]; rfl
      refine ⟨[(5, _)], dgn 5, nrm (ρ' := [.ptr k, .dat (.str (S n)), .dat (encSs x.linesL), .dat (.int (x.ins + min i x.deeds.length : Nat)), .dat (.int (i - x.deeds.length : Nat)), .dat (.str (S (outLine o)))]) ?_⟩
      have hsw : Txt.startswith (S (outLine o)) (S [111, 117, 116, 32]) = true := sw_yes (y := [111, 117, 116, 32])
      have e1 : preW x (i + 1) = ⟨(preW x i).ins, (preW x i).deeds, (preW x i).outs ++ [o]⟩ := by
        unfold preW
        rw [List.take_of_length_le (show x.deeds.length ≤ i + 1 by omega), List.take_of_length_le hi, show i + 1 - x.deeds.length = (i - x.deeds.length) + 1 by omega, take_succ_snoc ho]
      have hol : i - x.deeds.length < x.outs.length := (List.getElem?_eq_some_iff.mp ho).1
      have holen : (preW x i).outs.length = i - x.deeds.length := by unfold preW; rw [List.length_take]; omega
      have cf4 : PyData.str (cutS (S (outLine o)) (some 4) none) = .str (S (outL o)) := congrArg PyData.str (cut_from (p := [111, 117, 116, 32]) (q := outL o) (by rfl))
      refine ds_if (mid := fun ρ' O' => (∃ y, ρ' = [.ptr k, .dat (.str (S n)), .dat (encSs x.linesL), .dat (.int (x.ins + min (i + 1) x.deeds.length : Nat)), .dat (.int (i + 1 - x.deeds.length : Nat)), y]) ∧ O' = O.set j (.dK (tabO (some (n, preW x (i + 1)))))) (dte_pure ((dt_val (dp_startswith (dp_var 5) (dp_lit [111, 117, 116, 32]))).is (q := true) hsw) ⟨fun _ => ?_, (fun h => by cases h)⟩) (fun ρ' O' h => ds_nil h)
      refine ds_ifR (dte_cmp op_ne (de_say m hr hOi hDi ((dp_addL (p := [111, 117, 116, 32] ++ n ++ [32]) (dp_addL (p := [111, 117, 116, 32] ++ n) (dp_addL (dp_lit [111, 117, 116, 32]) (dp_var 1) (by simp; omega)) (dp_lit [32]) (by simp; omega)) ((dp_slS (dp_var 5) (do_some dp_int) do_none (by rw [SX.S_len, sizeLine_eq]; omega)).is cf4) (by simp; omega)).is (d' := .str (S (sayL [111, 117, 116] [wdH n, wdS o]))) (by simp [sayL, wdH, wdS, TL.joinL])) kd_out (u := some (n, preW x (i + 1))) (r := nl (i - x.deeds.length)) ?_ (by decide) ?_ ?_ ⟨_, rfl, de_pure (dp_strN B (dp_var 4) ?_) ⟨_, _, rfl, rd_neS, ?_⟩⟩))
      · intro w hw
        simp only [List.mem_cons, List.not_mem_nil, or_false] at hw
        rcases hw with rfl | rfl
        · exact ⟨.H n _ hn rfl, nsp⟩
        · exact ⟨.K _ _ _ (.S o hto), outL_not (by decide)⟩
      · simp [sayL, wdH, wdS, TL.joinL]; omega
      · rw [e1, ← holen]
        exact .out n (preW x i) o _ rfl (preW_ok hx i) (by rw [← e1]; exact preW_ok hx (i + 1)) rfl
      · exact Nat.lt_of_lt_of_le (show _ < 100 by omega) (by decide)
      · rw [decide_eq_true rfl, List.set_set]
        refine ⟨(fun h => by cases h), fun _ => ?_⟩
        refine set1 4 (dp_add (dp_var 4) dp_int) (ds_nil ⟨⟨.dat (.str (S (outLine o))), ?_⟩, rfl⟩)
        rw [show ((i - x.deeds.length : Nat) : Int) + 1 = (i + 1 - x.deeds.length : Nat) by omega, show min i x.deeds.length = min (i + 1) x.deeds.length by omega]
  · rintro ρ' O' ⟨⟨y, rfl⟩, rfl⟩
    have hlen : (cutD (x.linesL.map fun l => PyData.str (S l)) (some 1) none).length = x.deeds.length + x.outs.length := by
      rw [show (1 : Int) = ((1 : Nat) : Int) from rfl, cut_drop (by rw [List.length_map]; omega), List.length_drop, List.length_map, hll]; omega
    have ew : preW x (x.deeds.length + x.outs.length) = x := by
      unfold preW
      rw [List.take_of_length_le (by omega), List.take_of_length_le (by omega)]
    rw [hlen, ew]
    have hOi : Closed (O.set j (.dK (tabO (some (n, x))))) := hO.set
    have hDi : Dk C (O.set j (.dK (tabO (some (n, x))))) k j (some (n, x)) := hD.set
    refine ds_ret (de_cmp op_eq (de_say m hr hOi hDi ((dp_addL (p := [115, 104, 111, 119, 32]) (dp_lit [115, 104, 111, 119, 32]) (dp_var 1) (by simp; omega)).is (d' := .str (S (sayL [115, 104, 111, 119] [wdH n]))) (by simp [sayL, wdH, TL.joinL])) kd_show (u := some (n, x)) (r := x.textL) ?_ (by decide) ?_ (.ask n x _ _ _ [] _ rfl hok .shw rfl rfl) ⟨_, rfl, de_pure ((dp_join (ys := x.linesL.map S) (dp_lit [10]) ((dp_var 2).is (by unfold encSs; rw [List.map_map]; rfl)) ?_).is (d' := .str (S x.textL)) (by rw [SX.join_S]; rfl)) ⟨_, _, rfl, rd_eqS, ?_⟩⟩))
    · intro w hw
      simp only [List.mem_cons, List.not_mem_nil, or_false] at hw
      subst hw
      exact ⟨.H n _ hn rfl, nsp⟩
    · simp [sayL, wdH, TL.joinL]; omega
    · have := hok.sums
      have := hok.nlines
      rw [SX.lens, List.length_map, SX.S_len]
      simp only [List.length_cons, List.length_nil]
      omega
    · rw [decide_eq_true rfl, List.set_set]; exact hp
end
end SS
set_option maxHeartbeats 4000000
set_option exponentiation.threshold 5000
/-! The walks, seventeen: the law's own defs: in a width; turned about. -/
namespace SS
open PySem PySem.Spec PyProof.Rows L2
open SX (S)
structure Vv (x : Web) (v : List Int) : Prop where
  len : v.length = x.ins
  bd : ∀ y ∈ v, y.natAbs ≤ 10 ^ 30
theorem Vv.vl {x : Web} {v : List Int} (h : Vv x v) : Vl x v := ⟨h.len, fun y hy => Nat.le_trans (h.bd y hy) (by decide)⟩
theorem Vv.rg {x : Web} {v : List Int} (h : Vv x v) : Rg x (same v) := ⟨by unfold same; rw [List.length_map]; exact h.len, fun p hp => by
  obtain ⟨y, hy, rfl⟩ := List.mem_map.mp hp
  have := Nat.le_trans (h.bd y hy) (show 10 ^ 30 ≤ 2 ^ 4000 from Nat.le_trans (show 10 ^ 30 ≤ 2 ^ 100 by decide) (Nat.pow_le_pow_right (by decide) (by decide)))
  exact ⟨this, this⟩⟩
def R_lwide (ds : List PyData) (d : PyData) : Prop := ∃ (up : Bool) (x : Web) (v : List Int) (k : Nat), GW up x ∧ Vv x v ∧ 1 ≤ k ∧ k ≤ 140 ∧ ds = [encW x, .int k, encI v, encI (x.vals v), encI (x.outVals v)] ∧ d = .bool true
def R_lturned (ds : List PyData) (d : PyData) : Prop := ∃ x : Web, GW true x ∧ ds = [.str x.text, encW x, encLs x.outRows] ∧ d = .bool true
theorem pl_encTs {R : List Row} {k : Nat} : pl (encTs R) (k + 2) = true := by
  show (decide (0 < k + 2) && plAll (R.map encT) (k + 1)) = true
  rw [plAll_map (fun a _ => pl_encT)]; simp
theorem pl_encI {v : List Int} {k : Nat} : pl (encI v) (k + 1) = true := by
  show (decide (0 < k + 1) && plAll (v.map PyData.int) k) = true
  rw [pl_ints]; simp
theorem ints_get {v : List Int} {i : Nat} {d : PyData} (h : (v.map PyData.int)[i]? = some d) : i < v.length ∧ d = .int (v.getD i 0) := by
  rw [List.getElem?_map] at h
  cases e : v[i]? with
  | none => rw [e] at h; cases h
  | some y =>
    rw [e] at h
    injection h with h
    exact ⟨(List.getElem?_eq_some_iff.mp e).1, by rw [← h, getD_some e]⟩
theorem vals_len {x : Web} {v : List Int} : (x.vals v).length = v.length + x.deeds.length := by unfold Web.vals; rw [grow_len]
theorem valsW_len {x : Web} {v : List Int} {k : Nat} : (x.valsW k v).length = v.length + x.deeds.length := by unfold Web.valsW; rw [grow_len, List.length_map]
theorem sures_len {x : Web} {k : Nat} : (x.sures k).length = x.ins + x.deeds.length := by unfold Web.sures; rw [grow_len, List.length_replicate]
theorem outVals_len {x : Web} {v : List Int} : (x.outVals v).length = x.outs.length := by unfold Web.outVals; rw [List.length_map]
section
variable {P : Program} {w : World} {K : PySem.W.Frag} {mg : Str → Option Value} {base : Heap} {C : Addr}
theorem sc_134 : FnScope ["_law_web", "_law_width", "_law_values_here", "_law_plain", "_law_ends_here", "_law_there", "_law_value", "_law_here", "_law_many", "_law_ranges", "_law_lies_here", "_law_due"] ["_law_web", "_law_width", "_law_values_here", "_law_plain", "_law_ends_here"] (defScope (top 134)) := ⟨rfl, rfl, rfl, by decide +kernel, rfl, by decide +kernel, by decide +kernel⟩
theorem sc_136 : FnScope ["_law_text", "_law_web", "_law_outs", "_law_about", "_law_again", "_law_k", "_law_row", "_law_j"] ["_law_text", "_law_web", "_law_outs"] (defScope (top 136)) := ⟨rfl, rfl, rfl, by decide +kernel, rfl, by decide +kernel, by decide +kernel⟩
theorem all_lies {X : Cx} {δ : Dl} {a b : Expr} : True := trivial
theorem cal_lwide (B : Bi mg) (c1 : Cal P w K mg base "run_in" 3 ["web", "width", "values"] (spP K R_runin)) (c2 : Cal P w K mg base "sure" 2 ["web", "width"] (spP K R_sure)) (c3 : Cal P w K mg base "_law_lies" 1 ["_law_value", "_law_width"] (spP K R_lies)) (c4 : Cal P w K mg base "fits" 8 ["web", "width", "ranges"] (spP K R_fits)) (c5 : Cal P w K mg base "outs_in" 4 ["web", "width", "values"] (spP K R_outsin)) (c6 : Cal P w K mg base "width_for" 7 ["web", "ranges"] (spP K R_widthfor)) (D : Df K mg "_law_wide" "_law_wide" (top 134) ["_law_web", "_law_width", "_law_values_here", "_law_plain", "_law_ends_here"]) : Cal P w K mg base "_law_wide" 9 ["_law_web", "_law_width", "_law_values_here", "_law_plain", "_law_ends_here"] (spP K R_lwide) := by
  refine cal_P (N := ["_law_web", "_law_width", "_law_values_here", "_law_plain", "_law_ends_here", "_law_there", "_law_value", "_law_here", "_law_many", "_law_ranges", "_law_lies_here", "_law_due"]) D sc_134 (by rintro ds d ⟨up, x, v, k, _, _, _, _, rfl, _⟩; rfl) (by decide) (fun f cdv A outer sh H E hr ds d h => ?_)
  obtain ⟨up, x, v, k, hx, hv, k1, k2, rfl, rfl⟩ := h
  have hok := hx.ok
  have hr1 := hr.mono (j := 1) (by decide)
  have d9 := hx.d9
  have o4 := hx.o4
  have i4 := hx.i4
  have hvl := hv.len
  show DS _ _ [.dat (encW x), .dat (.int k), .dat (encI v), .dat (encI (x.vals v)), .dat (encI (x.outVals v)), .un, .un, .un, .un, .un, .un, .un] [] _ _
  refine set1 5 (d := encI (x.valsW k v)) (dp_call c1 (hr.mono (by decide)) (by rfl) (da_cons (dp_var 0) (da_cons (dp_var 1) (da_cons (dp_list B (dp_var 2)) da_nil))) ⟨x, v, k, hok, by omega, hvl, rfl, rfl⟩) ?_
  refine ds_for (die_pure (di_zip3 B (dp_var 3) (dp_var 5) (dp_call c2 (hr.mono (by decide)) (by rfl) (da_cons (dp_var 0) (da_cons (dp_var 1) da_nil)) ⟨x, k, hok, rfl, rfl⟩) (.lst _) (.lst _) (.lst _)) ⟨fun i ρ' O' => (∃ a b c d e f, ρ' = [.dat (encW x), .dat (.int k), .dat (encI v), .dat (encI (x.vals v)), .dat (encI (x.outVals v)), .dat (encI (x.valsW k v)), a, b, c, d, e, f]) ∧ O' = [], ⟨⟨_, _, _, _, _, _, rfl⟩, rfl⟩, ?_, ?_⟩)
  · rintro i d ρ' O' hxi ⟨⟨a, b, c, d2, e, f2, rfl⟩, rfl⟩
    obtain ⟨p, hp, rfl⟩ : ∃ p, ((x.vals v).map PyData.int |>.zip (((x.valsW k v).map PyData.int).zip ((x.sures k).map PyData.int)))[i]? = some p ∧ d = .tuple [p.1, p.2.1, p.2.2] := by
      rw [List.getElem?_map] at hxi
      cases q : ((x.vals v).map PyData.int |>.zip (((x.valsW k v).map PyData.int).zip ((x.sures k).map PyData.int)))[i]? with
      | none => rw [q] at hxi; cases hxi
      | some p => rw [q] at hxi; exact ⟨p, rfl, by injection hxi with h; exact h.symm⟩
    obtain ⟨p1, p23⟩ := List.getElem?_zip_eq_some.mp hp
    obtain ⟨p2, p3⟩ := List.getElem?_zip_eq_some.mp p23
    obtain ⟨l1, e1⟩ := ints_get p1
    obtain ⟨l2, e2⟩ := ints_get p2
    obtain ⟨l3, e3⟩ := ints_get p3
    obtain ⟨q1, q2, q3⟩ := p
    simp only at e1 e2 e3
    subst e1 e2 e3
    have G := wide_good k1 hok.ds hvl i (by rw [sures_len] at l3; exact l3)
    generalize (x.vals v).getD i 0 = pv' at *
    generalize (x.valsW k v).getD i 0 = ph at *
    generalize (x.sures k).getD i 0 = pm at *
    obtain ⟨g1, g2, g3, g4⟩ := G
    obtain ⟨mn', rfl⟩ := Int.eq_ofNat_of_zero_le g2
    refine ⟨[(6, .int pv'), (7, .int ph), (8, .int mn')], dg_tup rfl (dgs_cons (dgn 6) (dgs_cons (dgn 7) (dgs_cons (dgn 8) dgs_nil))), nrm (ρ' := [.dat (encW x), .dat (.int k), .dat (encI v), .dat (encI (x.vals v)), .dat (encI (x.outVals v)), .dat (encI (x.valsW k v)), .dat (.int pv'), .dat (.int ph), .dat (.int mn'), d2, e, f2]) ?_⟩
    have hsh : CShl 1 (mn' : Int) := one_shl (by omega)
    refine if1 (dt_w (dw_or (dt_not (dt_val (dp_call c3 hr1 (by rfl) (da_cons (dp_var 7) (da_cons (dp_var 1) da_nil)) ⟨ph, k, k1, by omega, rfl, rfl⟩))) fun _ => dw_or (dt_not (dt_chain op_le op_le dp_int (dp_var 8) (dp_var 1) rd_IB rd_IB)) fun _ => dw_or1 (dt_neI (dp_mod (dp_sub (dp_var 6) (dp_var 7)) (dp_shl dp_int (dp_var 8) hsh) (Int.mul_pos (by decide) (p2pos _))) dp_int))) (fun h => ?_) (fun _ => ds_nil ⟨⟨_, _, _, _, _, _, rfl⟩, rfl⟩)
    · exfalso
      have z1 : decide (lies ph k) = true := decide_eq_true g1
      have z2 : (decide ((0 : Int) ≤ (mn' : Int)) && decide ((mn' : Int) ≤ (k : Int))) = true := by rw [decide_eq_true g2, decide_eq_true g3]; rfl
      have z3 : (pv' - ph) % (1 * 2 ^ ((mn' : Nat) : Int).toNat) = 0 := by
        rw [Int.one_mul]
        exact Int.emod_eq_zero_of_dvd g4
      rw [z1, z2, decide_eq_true z3] at h
      cases h
  rintro ρ' O' ⟨⟨a, b, c, d2, e, f2, rfl⟩, rfl⟩
  refine setL 9 [("_law_value", 6)] v .int (fun y => encR (y, y)) (fun y => [(6, .int y)]) (di_list (dp_var 2)) (fun y _ s H C cl fp => dgn 6) (fun y hy s H C cl fp => ?_) ?_ (by omega)
  · exact dp_tup (da_cons (dp_var 6) (da_cons (dp_var 6) da_nil))
  have hrg : v.map (fun y => encR (y, y)) = (same v).map encR := by unfold same; rw [List.map_map]; rfl
  rw [hrg]
  have hpe : ((x.vals v).map PyData.int ++ (x.outVals v).map PyData.int) = (x.vals v ++ x.outVals v).map PyData.int := by rw [List.map_append]
  have hzl : (x.vals v ++ x.outVals v).length ≤ 1000000 := by rw [List.length_append, vals_len, outVals_len]; omega
  have hcl : ((x.vals v).map PyData.int).length + ((x.outVals v).map PyData.int).length ≤ sizeLine := by rw [List.length_map, List.length_map, vals_len, outVals_len, sizeLine_eq]; omega
  have hall : ∀ m : Nat, ((x.vals v ++ x.outVals v).map fun y => decide (lies y m)).all id = decide (∀ n ∈ x.vals v ++ x.outVals v, lies n m) := fun m => by
    rw [Bool.eq_iff_iff, List.all_eq_true, decide_eq_true_eq]
    constructor
    · intro h n hn
      exact of_decide_eq_true (h _ (List.mem_map.mpr ⟨n, hn, rfl⟩))
    · intro h b hb
      obtain ⟨n, hn, rfl⟩ := List.mem_map.mp hb
      exact decide_eq_true (h n hn)
  have hwf : decide (wfor x (same v) ≤ k) = decide (∀ n ∈ x.vals v ++ x.outVals v, lies n k) := decide_eq_decide.mpr (wfor_same hok hvl k1)
  refine set1 10 (d := .bool (decide (∀ n ∈ x.vals v ++ x.outVals v, lies n k))) ((dp_all B (ns := (x.vals v ++ x.outVals v).map fun y => decide (lies y k)) (lcp [("_law_value", 6)] (x.vals v ++ x.outVals v) .int (fun y => .bool (decide (lies y k))) (fun y => [(6, .int y)]) (di_list ((dp_cat (dp_var 3) (dp_var 4) hcl).is (by rw [hpe]))) (fun y _ s H C cl fp => dgn 6) (fun y hy s H C cl fp => ?_) (by rw [List.map_map]; rfl) hzl)).is (by rw [hall])) ?_
  · exact dp_call c3 (hr1) (by rfl) (da_cons (dp_var 6) (da_cons (dp_var 1) da_nil)) ⟨y, k, k1, by omega, rfl, rfl⟩
  generalize hb : decide (∀ n ∈ x.vals v ++ x.outVals v, lies n k) = bl' at hwf ⊢
  refine if1 ((dt_neB (dp_call c4 hr (by rfl) (da_cons (dp_var 0) (da_cons (dp_var 1) (da_cons (dp_list B (dp_var 9)) da_nil))) ⟨x, same v, k, hok, hv.rg, rfl, rfl⟩) (dp_var 10)).is (q := false) (by rw [hwf, decide_eq_true rfl]; rfl)) (fun h => by cases h) (fun _ => ?_)
  refine if1 ((dt_w (dw_and (q := false) (dt_val (dp_var 10)) fun h => dw_and1 (dt_w ((dw_or (p := false) (q := false) (dt_neT 1 hr.units ((dp_var 5).is (d' := encI (x.vals v)) ?_) (dp_var 3) pl_encI) fun _ => dw_or1 (dt_neT 1 hr.units ((dp_call c5 (hr.mono (by decide)) (by rfl) (da_cons (dp_var 0) (da_cons (dp_var 1) (da_cons (dp_list B (dp_var 2)) da_nil))) ⟨x, v, k, hok, by omega, hvl, rfl, rfl⟩).is (d' := encI (x.outVals v)) ?_) (dp_var 4) pl_encI)))))).is (q := false) (by rw [Bool.and_false])) (fun h => by cases h) (fun _ => ?_)
  · have hl := of_decide_eq_true (hb.trans h)
    rw [wide_same k1 fun n hn => hl n (List.mem_append_left _ hn)]
  · have hl := of_decide_eq_true (hb.trans h)
    rw [wide_outs k1 (fun n hn => hl n (List.mem_append_left _ hn)) fun n hn => hl n (List.mem_append_right _ hn)]
  refine set1 11 (dp_int (n := 1)) ?_
  obtain ⟨w1, w2⟩ := hx.wide hvl hv.bd
  refine ds_while (I := fun ρ' O' => ∃ m : Nat, 1 ≤ m ∧ (m : Int) ≤ wfor x (same v) ∧ (∃ a b c, ρ' = [.dat (encW x), .dat (.int k), .dat (encI v), .dat (encI (x.vals v)), .dat (encI (x.outVals v)), .dat (encI (x.valsW k v)), a, b, c, .dat (.list ((same v).map encR)), .dat (.bool bl'), .dat (.int m)]) ∧ O' = []) (μ := fun ρ' _ => match ρ'[11]? with
    | some (SV.dat (PyData.int m)) => (3000 - m).toNat
    | _ => 0) ⟨1, Nat.le_refl _, w1, ⟨_, _, _, rfl⟩, rfl⟩ ?_
  rintro ρ' O' ⟨m, m1, m2, ⟨a, b, c, rfl⟩, rfl⟩
  refine dte_pure (dt_not (dt_val ((dp_all B (ns := (x.vals v ++ x.outVals v).map fun y => decide (lies y m)) (lcp [("_law_value", 6)] (x.vals v ++ x.outVals v) .int (fun y => .bool (decide (lies y m))) (fun y => [(6, .int y)]) (di_list ((dp_cat (dp_var 3) (dp_var 4) hcl).is (by rw [hpe]))) (fun y _ s H C cl fp => dgn 6) (fun y hy s H C cl fp => ?_) (by rw [List.map_map]; rfl) hzl)).is (d' := .bool (decide (wfor x (same v) ≤ m))) (by rw [hall, decide_eq_decide.mpr (wfor_same hok hvl m1)])))) ⟨fun h => ?_, fun h => ?_⟩
  · exact dp_call c3 hr1 (by rfl) (da_cons (dp_var 6) (da_cons (dp_var 11) da_nil)) ⟨y, m, m1, by omega, rfl, rfl⟩
  · have hm : ¬ wfor x (same v) ≤ m := by
      intro q
      rw [decide_eq_true q] at h
      cases h
    refine set1 11 (dp_add (dp_var 11) dp_int) (ds_nil ⟨⟨m + 1, by omega, by omega, ⟨_, _, _, rfl⟩, rfl⟩, ?_⟩)
    show (3000 - ((m : Int) + 1)).toNat < (3000 - (m : Int)).toNat
    omega
  · have hm : wfor x (same v) ≤ m := by
      by_cases q : wfor x (same v) ≤ m
      · exact q
      · rw [decide_eq_false q] at h; cases h
    refine ret1 (dp_eqI (dp_call c6 (hr.mono (by decide)) (by rfl) (da_cons (dp_var 0) (da_cons (dp_var 9) da_nil)) ⟨x, same v, hok, hv.rg, rfl, rfl⟩) (dp_var 11)) ?_
    rw [decide_eq_true (show wfor x (same v) = (m : Int) by omega)]
theorem cal_lturned (B : Bi mg) (c1 : Cal P w K mg base "turned" 5 ["web"] (spP K R_turned)) (c2 : Cal P w K mg base "shown" 3 ["web"] (spP K R_shown)) (c3 : Cal P w K mg base "read" 5 ["text"] (spP K R_read)) (c4 : Cal P w K mg base "out_numbers" 6 ["web"] (spP K R_outnumbers)) (c5 : Cal P w K mg base "run_outs" 3 ["web", "values"] (spP K R_runouts)) (D : Df K mg "_law_turned" "_law_turned" (top 136) ["_law_text", "_law_web", "_law_outs"]) : Cal P w K mg base "_law_turned" 7 ["_law_text", "_law_web", "_law_outs"] (spP K R_lturned) := by
  refine cal_P (N := ["_law_text", "_law_web", "_law_outs", "_law_about", "_law_again", "_law_k", "_law_row", "_law_j"]) D sc_136 (by rintro ds d ⟨x, _, rfl, _⟩; rfl) (by decide) (fun f cdv A outer sh H E hr ds d h => ?_)
  obtain ⟨x, hx, rfl, rfl⟩ := h
  have hok := hx.ok
  have T := hx.turns
  have o1 := hx.o1
  have o4 := hx.o4
  have hne : x.outs ≠ [] := fun q => by rw [q] at o1; simp at o1
  have hne1 : x.turned.outs ≠ [] := fun q => by
    have := T.outs1
    have i1 := hx.i1
    rw [q] at this
    simp at this
    omega
  show DS _ _ [.dat (.str x.text), .dat (encW x), .dat (encLs x.outRows), .un, .un, .un, .un, .un] [] _ _
  refine set1 3 (dp_call c1 (hr.mono (by decide)) (by rfl) (da_cons (dp_var 1) da_nil) ⟨x, hok, hx.isUp, hne, rfl, rfl⟩) ?_
  refine set1 4 (d := encW x.turned.turned) (dp_call c1 (hr.mono (by decide)) (by rfl) (da_cons (dp_call c3 (hr.mono (by decide)) (by rfl) (da_cons (dp_call c2 (hr.mono (by decide)) (by rfl) (da_cons (dp_var 3) da_nil) ⟨x.turned, T.ok1, rfl, rfl⟩) da_nil) ⟨x.turned, T.ok1, rfl, rfl⟩) da_nil) ⟨x.turned, T.ok1, T.up1, hne1, rfl, rfl⟩) ?_
  refine if1 (dt_w (dw_or (p := false) (q := false) (dt_neT 2 hr.units (d := encTs x.outRows) ((dp_call c4 hr (by rfl) (da_cons (dp_var 4) da_nil) ⟨x.turned.turned, T.ok2, rfl, rfl⟩).is (by rw [T.rows2])) (lcp [("_law_row", 6)] x.outRows encL encT (fun r => [(6, encL r)]) (di_list (dp_var 2)) (fun r _ s H C cl fp => dgn 6) (fun r hr' s H C cl fp => ?_) rfl ?_) pl_encTs) fun _ => dw_or1 (dt_neT 3 hr.units (dp_call c3 (hr.mono (by decide)) (by rfl) (da_cons (dp_var 0) da_nil) ⟨x, hok, rfl, rfl⟩) (dp_var 1) pl_encW))) (fun h => by cases h) (fun _ => ?_)
  · exact dp_tupL B (dp_var 6)
  · rw [outRows_len]; omega
  refine ds_for (die_pure (di_rng1 (m := x.outs.length) rfl B.range (dp_len B (dp_var 2)) (by rw [List.length_map, outRows_len]; simp) (by omega) (by omega)) ⟨fun i ρ' O' => (∃ a b c, ρ' = [.dat (.str x.text), .dat (encW x), .dat (encLs x.outRows), .dat (encW x.turned), .dat (encW x.turned.turned), a, b, c]) ∧ O' = [], ⟨⟨_, _, _, rfl⟩, rfl⟩, ?_, ?_⟩)
  · rintro i d ρ' O' hx' ⟨⟨a, b, c, rfl⟩, rfl⟩
    obtain ⟨hi, rfl⟩ := rngD_get hx'
    refine ⟨[(5, _)], dgn 5, nrm (ρ' := [.dat (.str x.text), .dat (encW x), .dat (encLs x.outRows), .dat (encW x.turned), .dat (encW x.turned.turned), .dat (.int (0 + (i : Nat))), b, c]) ?_⟩
    have hz : (List.range x.outs.length).length ≤ 1000000 := by rw [List.length_range]; omega
    have hu : ∀ y ∈ unitRow x.outs.length i, y.natAbs ≤ 2 ^ 200 := fun y hy => by
      obtain ⟨j, _, rfl⟩ := List.mem_map.mp hy
      split <;> decide
    refine if1 (dt_neT 1 hr.units (d := encI (x.outRows.getD i [])) ((dp_call c5 (hr.mono (by decide)) (by rfl) (da_cons (dp_var 3) (da_cons (lcp [("_law_j", 7)] (List.range x.outs.length) (fun j => .int j) (fun j => .int (if j = i then 1 else 0)) (fun j => [(7, .int j)]) ?_ (fun j _ s H C cl fp => dgn 7) (fun j hj s H C cl fp => ?_) rfl hz) da_nil)) ⟨x.turned, unitRow x.outs.length i, T.ok1, ⟨by rw [unitRow_len, T.ins1], hu⟩, ?_, rfl⟩).is (by rw [T.tells hok hi])) (dp_ixL (dp_var 2) (dp_var 5) (by rw [show (0 : Int) + (i : Nat) = ((i : Nat) : Int) by omega]; exact rl_at' (by rw [outRows_len]; exact hi))) pl_encI) (fun h => by cases h) (fun _ => ds_nil ⟨⟨_, _, _, rfl⟩, rfl⟩)
    · rw [rng_enc]
      exact di_rng1 rfl B.range (dp_len B (dp_var 2)) (by rw [List.length_map, outRows_len]; simp) (by omega) (by omega)
    · exact (dp_intB B (dp_eqI (dp_var 7) (dp_var 5))).is (by simp; split <;> split <;> first | rfl | omega)
    · unfold encI unitRow; rw [List.map_map]; rfl
  · rintro ρ' O' ⟨⟨a, b, c, rfl⟩, rfl⟩
    exact ret1 dp_bl rfl
end
end SS
set_option maxHeartbeats 4000000
set_option exponentiation.threshold 9000
/-! The walks, eighteen: the law at the desk, run and range. -/
namespace SS
open PySem PySem.Spec PyProof.Rows L2
open SX (S)
theorem il_read {v : Int} (h : v.natAbs < 10 ^ 600) : PySem.intText? (S (il v)) = some v := by
  have hl : (nl v.natAbs).length ≤ 600 := nl_len (by decide) h
  by_cases hv : v < 0
  · rw [il_neg hv, intText_neg (cs := nl v.natAbs) rfl (TL.numL_digits _) (TL.numL_ne _) (by rw [SX.S_len, List.length_cons]; omega), TL.numL_val]
    congr 1; omega
  · rw [il_pos hv, nl_read (by omega)]
    congr 1; omega
theorem p3000 : (2 : Nat) ^ 3000 < 10 ^ 4300 := Nat.lt_of_le_of_lt (Nat.pow_le_pow_left (by decide) 3000) (Nat.pow_lt_pow_right (by decide) (by decide))
theorem big_ok {n : Int} {k : Nat} (h : n.natAbs ≤ 2 ^ k) (hk : k ≤ 3000) : n.natAbs < 10 ^ 4300 := Nat.lt_of_le_of_lt (Nat.le_trans h (Nat.pow_le_pow_right (by decide) hk)) p3000
theorem log_ok {n : Int} {k : Nat} (h : n.natAbs ≤ 2 ^ k) (hk : k < 1919) : n.natAbs.log2 < 1920 := log_lt (by decide) (Nat.lt_of_le_of_lt h (Nat.pow_lt_pow_right (by decide) (by omega)))
theorem outsW_bd {x : Web} {v : List Int} {k : Nat} : ∀ y ∈ x.outsW k v, y.natAbs ≤ 2 ^ k := fun y hy => by
  obtain ⟨o, _, rfl⟩ := List.mem_map.mp hy
  exact wr_le
theorem outsW_len {x : Web} {v : List Int} {k : Nat} : (x.outsW k v).length = x.outs.length := by unfold Web.outsW; rw [List.length_map]
theorem lies_bd {n : Int} {k : Nat} (h : lies n k) : n.natAbs ≤ 2 ^ k := by
  unfold lies at h
  have e : ((2 ^ (k - 1) : Nat) : Int) = (2 : Int) ^ (k - 1) := by norm_cast
  have h2 : (2 : Nat) ^ (k - 1) ≤ 2 ^ k := Nat.pow_le_pow_right (by decide) (by omega)
  rw [← e] at h
  omega
theorem rngW_lies {x : Web} {k : Nat} : lies (rngW x k).1 k ∧ lies (rngW x k).2 k := by
  obtain ⟨a, b⟩ := rngW_zero (x := x) (w := k)
  exact ⟨(rngW_iff.mp ⟨Int.le_refl _, by omega⟩).1, (rngW_iff.mp ⟨by omega, Int.le_refl _⟩).1⟩
theorem outVals_bd {up : Bool} {x : Web} {v : List Int} (hx : GW up x) (hv : Vv x v) : ∀ y ∈ x.outVals v, y.natAbs ≤ 2 ^ 511 := fun y hy => by
  rw [outVals_rows hx.ok hv.len] at hy
  obtain ⟨r, hr, rfl⟩ := List.mem_map.mp hy
  exact hx.dot_bd hv.bd r (List.mem_append_right _ hr)
theorem sm_8000 {up : Bool} {x : Web} (hx : GW up x) : Sm x 8000 := fun r hr n hn => Nat.lt_of_le_of_lt (hx.all_bd r hr n hn) (Nat.pow_lt_pow_right (by decide) (by decide))
theorem joinL_cons {s a : List Nat} : ∀ {l : List (List Nat)}, l ≠ [] → TL.joinL s (a :: l) = a ++ (s ++ TL.joinL s l)
  | [], h => absurd rfl h
  | _ :: _, _ => rfl
theorem il_join_len {v : List Int} (h : ∀ y ∈ v, y.natAbs < 10 ^ 600) (hl : v.length ≤ 12) : (TL.joinL [32] (v.map il)).length ≤ 8000 := by
  have h1 := joinL_len (sep := [32]) (v.map il)
  have h2 : ((v.map il).map (·.length)).sum ≤ 601 * ((v.map il).map (·.length)).length := sum_le fun x hx => by
    obtain ⟨l, hl, rfl⟩ := List.mem_map.mp hx
    obtain ⟨y, hy, rfl⟩ := List.mem_map.mp hl
    exact il_len (by decide) (h y hy)
  rw [List.length_map, List.length_map] at h2
  rw [List.length_map] at h1
  simp only [List.length_cons, List.length_nil] at h1
  omega
theorem de_ask {X : Cx} {ρ : List SV} {O : Rs} {post : Post} {C : Addr} {e1 e2 : Expr} {apos pos : Pos} {pl : Sem Bool} {k j : Nat} {x : Web} {n z r : List Nat} {ws : List Wd} {ds : List PyData} (m : MCal X.prog X.w X.K X.mg X.base C "say" 9 ["self", "row"] (spS X.K (S_say C))) (hr : Room 9 X.A) (hO : Closed O) (hD : Dk C O k j (some (n, x))) (hok : x.ok) (hn : Nm n) (he : DP X e2 (view ρ) (.str (S (sayL z (wdH n :: ws))))) (hK : Kd z (wdH n :: ws)) (hW : ∀ w ∈ ws, Tw (some (n, x)) w.c w.l w.d ∧ 32 ∉ w.l) (hz : 32 ∉ z) (hl : (sayL z (wdH n :: ws)).length ≤ 100000) (hd : ws.map (·.d) = ds) (hT : Ta x z ds r)
    (hp : post (.dat (.str (S r))) O) (hv : DE X e1 ρ O fun sv O1 => sv = .ptr k ∧ O1 = O := by exact de_var 0 rfl ⟨rfl, rfl⟩) (hst : starEach [e2] X.env = (false, eval e2 X.env) :: starEach [] X.env := by rfl) (hpl : (backTo pos (starEach [] X.env)).any (·.1) = false := by rfl)
    (ht : eval (.Call (.Attribute e1 "say" apos) [e2] [] pos) X.env = (do
      let ov ← eval e1 X.env
      standAt apos.atName
      let (f, first) ← holding [ov] (getMethod ov "say" pl)
      callWith pos f first (backTo pos (starEach [e2] X.env)) (backToKw pos (keywordEach [] X.env))) := by rfl) : DE X (.Call (.Attribute e1 "say" apos) [e2] [] pos) ρ O post :=
  de_say m hr hO hD he hK (fun w hw => by
    rcases List.mem_cons.mp hw with rfl | hw
    · exact ⟨.H n _ hn rfl, nm_sp hn⟩
    · exact hW w hw) hz hl (u := some (n, x)) (r := r) (.ask n x z _ r ds _ rfl hok hT (by rw [List.map_cons, hd]; rfl) rfl) (by rw [set_same hD.l]; exact hp) hv hst hpl ht
def xsW (v : List Int) : List Wd := v.map wdX
theorem xsW_l {v : List Int} : (xsW v).map (·.l) = v.map il := by unfold xsW; rw [List.map_map]; rfl
theorem xsW_d {v : List Int} : (xsW v).map (·.d) = v.map .int := by unfold xsW; rw [List.map_map]; rfl
theorem xsW_c {v : List Int} : (xsW v).map (·.c) = List.replicate v.length 88 := by
  unfold xsW
  rw [List.map_map]
  show v.map (fun _ => 88) = _
  rw [List.map_const']
theorem kd_within {n : List Nat} {k : Nat} {v : List Int} (h : v ≠ []) (hl : v.length ≤ 12) : Kd [119, 105, 116, 104, 105, 110] (wdH n :: wdW k :: xsW v) := by
  have hp : 0 < v.length := List.length_pos_iff.mpr h
  have e : (wdH n :: wdW k :: xsW v).length = 2 + v.length := by unfold xsW; simp; omega
  refine ⟨[72, 87, 88], 1000000, 88, by simp [rowsT], by decide, by decide, by rw [e]; simp; omega, by rw [e]; simp; omega, by rw [e]; omega, ?_⟩
  rw [e, List.map_cons, List.map_cons, xsW_c]
  obtain ⟨l, hl⟩ : ∃ l, v.length = l + 1 := ⟨v.length - 1, by omega⟩
  rw [hl, show 2 + (l + 1) - [72, 87, 88].length = l by simp; omega, List.replicate_succ]; rfl
theorem kd_run {n : List Nat} {v : List Int} (h : v ≠ []) (hl : v.length ≤ 12) : Kd [114, 117, 110] (wdH n :: xsW v) := by
  have hp : 0 < v.length := List.length_pos_iff.mpr h
  have e : (wdH n :: xsW v).length = 1 + v.length := by unfold xsW; simp; omega
  refine ⟨[72, 88], 1000000, 88, by simp [rowsT], by decide, by decide, by rw [e]; simp; omega, by rw [e]; simp; omega, by rw [e]; omega, ?_⟩
  rw [e, List.map_cons, xsW_c]
  obtain ⟨l, hl⟩ : ∃ l, v.length = l + 1 := ⟨v.length - 1, by omega⟩
  rw [hl, show 1 + (l + 1) - [72, 88].length = l by simp; omega, List.replicate_succ]; rfl
theorem kd_range {n : List Nat} {k : Nat} : Kd [114, 97, 110, 103, 101] [wdH n, wdW k] := ⟨[72, 87], 0, 87, by simp [rowsT], by decide, by simp, by simp, by simp, by simp, rfl⟩
theorem xs_tw {t : Option (List Nat × Web)} {v : List Int} (h : ∀ y ∈ v, y.natAbs ≤ 10 ^ 30) : ∀ w ∈ xsW v, Tw t w.c w.l w.d ∧ 32 ∉ w.l := fun w hw => by
  obtain ⟨y, hy, rfl⟩ := List.mem_map.mp hw
  exact ⟨.K _ _ _ (.X y (Nat.lt_of_le_of_lt (h y hy) (by decide))), il_sp⟩
def S_atdesk (C : Addr) (svs : List SV) (O : Rs) (post : Post) : Prop := ∃ (kd j : Nat) (up : Bool) (x : Web) (n : List Nat) (v : List Int) (k : Nat), svs = [.ptr kd, .dat (.str (S n)), .dat (encW x), .dat (.int k), .dat (encI v), .dat (encI (x.vals v)), .dat (encI (x.outVals v))] ∧ Closed O ∧ Dk C O kd j (some (n, x)) ∧ Nm n ∧ GW up x ∧ Vv x v ∧ 1 ≤ k ∧ k ≤ 140 ∧ post (.dat (.bool true)) O
section
variable {P : Program} {w : World} {K : PySem.W.Frag} {mg : Str → Option Value} {base : Heap} {C : Addr}
theorem sc_135 : FnScope ["_law_desk", "_law_name", "_law_web", "_law_width", "_law_values_here", "_law_plain", "_law_tail", "_law_some", "_law_said", "_law_wide_here", "_law_due", "_law_low_here", "_law_high", "_law_value", "_law_part_here"] ["_law_desk", "_law_name", "_law_web", "_law_width", "_law_values_here", "_law_plain", "_law_tail"] (defScope (top 135)) := ⟨rfl, rfl, rfl, by decide +kernel, rfl, by decide +kernel, by decide +kernel⟩
theorem cal_latdesk (B : Bi mg) (nd : ND K) (m : MCal P w K mg base C "say" 9 ["self", "row"] (spS K (S_say C))) (c1 : Cal P w K mg base "outs_in" 4 ["web", "width", "values"] (spP K R_outsin)) (c2 : Cal P w K mg base "width_for" 7 ["web", "ranges"] (spP K R_widthfor)) (c3 : Cal P w K mg base "range_in" 7 ["web", "width"] (spP K R_rangein)) (c4 : Cal P w K mg base "fits" 8 ["web", "width", "ranges"] (spP K R_fits)) (D : Df K mg "_law_at_desk" "_law_at_desk" (top 135) ["_law_desk", "_law_name", "_law_web", "_law_width", "_law_values_here", "_law_plain", "_law_tail"]) : Cal P w K mg base "_law_at_desk" 10 ["_law_desk", "_law_name", "_law_web", "_law_width", "_law_values_here", "_law_plain", "_law_tail"] (spS K (S_atdesk C)) := by
  refine cal_S0 (N := ["_law_desk", "_law_name", "_law_web", "_law_width", "_law_values_here", "_law_plain", "_law_tail", "_law_some", "_law_said", "_law_wide_here", "_law_due", "_law_low_here", "_law_high", "_law_value", "_law_part_here"]) D sc_135 (by rintro svs O post ⟨kd, j, up, x, n, v, k, rfl, _⟩; rfl) (by decide) (fun f cdv A outer sh H E hr svs O post h => ?_)
  obtain ⟨kd, j, up, x, n, v, k, rfl, hO, hD, hn, hx, hv, k1, k2, hp⟩ := h
  have hok := hx.ok
  have nle := nm_len hn
  have i1 := hx.i1
  have i4 := hx.i4
  have o1 := hx.o1
  have o4 := hx.o4
  have hvl := hv.len
  have hvne : v ≠ [] := fun q => by rw [q] at hvl; simp at hvl; omega
  have hv60 : ∀ y ∈ v, y.natAbs < 10 ^ 600 := fun y hy => Nat.lt_of_le_of_lt (hv.bd y hy) (by decide)
  have jl := il_join_len hv60 (by omega)
  have hane : ∀ l : List Int, l.length = x.outs.length → l ≠ [] := fun l h q => by rw [q] at h; simp at h; omega
  have hsl : ∀ l : List Int, l.length ≤ 12 → (∀ y ∈ l, y.natAbs < 10 ^ 600) → ((l.map il).map S |>.map (·.length)).sum + ((l.map il).map S).length * (S [32]).length ≤ 16777216 := fun l h1 h2 => by
    have := il_sums (v := l) fun y hy => Nat.lt_of_lt_of_le (h2 y hy) (Nat.pow_le_pow_right (by decide) (by decide))
    rw [SX.lens, List.length_map, List.length_map, SX.S_len]
    simp only [List.length_cons, List.length_nil]
    omega
  have p600 : ∀ y : Int, y.natAbs ≤ 2 ^ 511 → y.natAbs < 10 ^ 600 := fun y h => Nat.lt_of_le_of_lt h (Nat.lt_of_le_of_lt (Nat.pow_le_pow_left (by decide : 2 ≤ 10) 511) (Nat.pow_lt_pow_right (by decide) (by decide)))
  show DS _ _ [.ptr kd, .dat (.str (S n)), .dat (encW x), .dat (.int k), .dat (encI v), .dat (encI (x.vals v)), .dat (encI (x.outVals v)), .un, .un, .un, .un, .un, .un, .un, .un] O _ _
  refine set1 7 (d := .str (S (TL.joinL [32] (v.map il)))) ((dp_join (ys := (v.map il).map S) (dp_lit [32]) (lcp [("_law_value", 13)] v .int (fun y => .str (S (il y))) (fun y => [(13, .int y)]) (di_list (dp_var 4)) (fun y _ s H C cl fp => dgn 13) (fun y hy s H C cl fp => ?_) (by rw [List.map_map, List.map_map]; rfl) (by omega)) (hsl v (by omega) hv60)).is (by rw [SX.join_S])) ?_
  · exact (dp_strI B (dp_var 13) (log_ok (k := 100) (Nat.le_trans (hv.bd y hy) (by decide)) (by decide))).is (by rw [il_str])
  have nk : ∀ q : Nat, q ≤ 3000 → (nl q).length ≤ 60 := fun q h => nl_len (by decide) (Nat.lt_of_le_of_lt h (by decide))
  have hsw : ∀ q : Nat, sayL [119, 105, 116, 104, 105, 110] (wdH n :: wdW q :: xsW v) = [119, 105, 116, 104, 105, 110, 32] ++ n ++ [32] ++ nl q ++ [32] ++ TL.joinL [32] (v.map il) := fun q => by
    unfold sayL
    rw [List.map_cons, List.map_cons, xsW_l]
    have hne : v.map il ≠ [] := fun z => hvne (List.map_eq_nil_iff.mp z)
    rw [joinL_cons (by simp), joinL_cons (by simp), joinL_cons hne]
    simp [wdH, wdW]
  have hsr : sayL [114, 117, 110] (wdH n :: xsW v) = [114, 117, 110, 32] ++ n ++ [32] ++ TL.joinL [32] (v.map il) := by
    unfold sayL
    rw [List.map_cons, xsW_l]
    have hne : v.map il ≠ [] := fun z => hvne (List.map_eq_nil_iff.mp z)
    rw [joinL_cons (by simp), joinL_cons hne]
    simp [wdH]
  have htw : ∀ q : Nat, 1 ≤ q → q ≤ 3000 → ∀ w ∈ wdW q :: xsW v, Tw (some (n, x)) w.c w.l w.d ∧ 32 ∉ w.l := fun q h1 h2 w hw => by
    rcases List.mem_cons.mp hw with rfl | hw
    · exact ⟨.K _ _ _ (.W q h1 h2), nl_sp⟩
    · exact xs_tw hv.bd w hw
  refine setE 8 (de_ask m hr hO hD hok hn ((dp_addL (p := [119, 105, 116, 104, 105, 110, 32] ++ n ++ [32] ++ nl k ++ [32]) (dp_addL (p := [119, 105, 116, 104, 105, 110, 32] ++ n ++ [32] ++ nl k) (dp_addL (p := [119, 105, 116, 104, 105, 110, 32] ++ n ++ [32]) (dp_addL (p := [119, 105, 116, 104, 105, 110, 32] ++ n) (dp_addL (dp_lit [119, 105, 116, 104, 105, 110, 32]) (dp_var 1) (by simp; omega)) (dp_lit [32]) (by simp; omega)) (dp_strN B (dp_var 3) (Nat.lt_of_le_of_lt k2 (by decide))) (by have := nk k (by omega); simp; omega)) (dp_lit [32]) (by have := nk k (by omega); simp; omega)) (dp_var 7) (by have := nk k (by omega); simp; omega)).is (by rw [← hsw k])) (kd_within hvne (by omega)) (htw k k1 (by omega)) (by decide) (by rw [hsw]; have := nk k (by omega); simp; omega) (ds := .int k :: v.map .int) (by rw [List.map_cons, xsW_d]; rfl) (.within k v (by omega) hvl (hane _ outsW_len) (by rw [outsW_len]; omega) fun y hy => big_ok (outsW_bd y hy) (by omega)) ?_)
  refine nrm (ρ' := [.ptr kd, .dat (.str (S n)), .dat (encW x), .dat (.int k), .dat (encI v), .dat (encI (x.vals v)), .dat (encI (x.outVals v)), .dat (.str (S (TL.joinL [32] (v.map il)))), .dat (.str (S (TL.joinL [32] ((x.outsW k v).map il)))), .un, .un, .un, .un, .un, .un]) ?_
  refine if1 ((dt_neS (dp_var 8) ((dp_join (ys := ((x.outsW k v).map il).map S) (dp_lit [32]) (lcp [("_law_value", 13)] (x.outsW k v) .int (fun y => .str (S (il y))) (fun y => [(13, .int y)]) (di_list (dp_call c1 (hr.mono (by decide)) (by rfl) (da_cons (dp_var 2) (da_cons (dp_var 3) (da_cons (dp_list B (dp_var 4)) da_nil))) ⟨x, v, k, hok, by omega, hvl, rfl, rfl⟩)) (fun y _ s H C cl fp => dgn 13) (fun y hy s H C cl fp => ?_) (by rw [List.map_map, List.map_map]; rfl) (by rw [outsW_len]; omega)) (hsl _ (by rw [outsW_len]; omega) fun y hy => p600 y (Nat.le_trans (outsW_bd y hy) (Nat.pow_le_pow_right (by decide) (by omega))))).is (d' := .str (S (TL.joinL [32] ((x.outsW k v).map il)))) (by rw [SX.join_S]))).is (q := false) (by rw [decide_eq_true rfl]; rfl)) (fun h => by cases h) (fun _ => ?_)
  · exact (dp_strI B (dp_var 13) (log_ok (k := 140) (Nat.le_trans (outsW_bd y hy) (Nat.pow_le_pow_right (by decide) k2)) (by decide))).is (by rw [il_str])
  obtain ⟨w1, w2⟩ := hx.wide hvl hv.bd
  obtain ⟨q, hq⟩ := Int.eq_ofNat_of_zero_le (show 0 ≤ wfor x (same v) by omega)
  have q1 : 1 ≤ q := by omega
  have q2 : q ≤ 3000 := by omega
  have hrg : v.map (fun y => encR (y, y)) = (same v).map encR := by unfold same; rw [List.map_map]; rfl
  refine set1 9 (d := .int q) ((dp_call c2 (hr.mono (by decide)) (by rfl) (da_cons (dp_var 2) (da_cons (lcp [("_law_value", 13)] v .int (fun y => encR (y, y)) (fun y => [(13, .int y)]) (di_list (dp_var 4)) (fun y _ s H C cl fp => dgn 13) (fun y hy s H C cl fp => ?_) rfl (by omega)) da_nil)) ⟨x, same v, hok, hv.rg, by rw [hrg], rfl⟩).is (by rw [hq])) ?_
  · exact dp_tup (da_cons (dp_var 13) (da_cons (dp_var 13) da_nil))
  have hov := outVals_bd hx hv
  refine set1 10 (d := .str (S (TL.joinL [32] ((x.outVals v).map il)))) ((dp_join (ys := ((x.outVals v).map il).map S) (dp_lit [32]) (lcp [("_law_value", 13)] (x.outVals v) .int (fun y => .str (S (il y))) (fun y => [(13, .int y)]) (di_list (dp_var 6)) (fun y _ s H C cl fp => dgn 13) (fun y hy s H C cl fp => ?_) (by rw [List.map_map, List.map_map]; rfl) (by rw [outVals_len]; omega)) (hsl _ (by rw [outVals_len]; omega) fun y hy => p600 y (hov y hy))).is (by rw [SX.join_S])) ?_
  · exact (dp_strI B (dp_var 13) (log_ok (hov y hy) (by decide))).is (by rw [il_str])
  refine nrm (ρ' := [.ptr kd, .dat (.str (S n)), .dat (encW x), .dat (.int k), .dat (encI v), .dat (encI (x.vals v)), .dat (encI (x.outVals v)), .dat (.str (S (TL.joinL [32] (v.map il)))), .dat (.str (S (TL.joinL [32] ((x.outsW k v).map il)))), .dat (.int q), .dat (.str (S (TL.joinL [32] ((x.outVals v).map il)))), .un, .un, .un, .un]) ?_
  have hlies := (wfor_same hok hvl q1).mp (show wfor x (same v) ≤ q by omega)
  have heq : x.outsW q v = x.outVals v := wide_outs q1 (fun n hn => hlies n (List.mem_append_left _ hn)) fun n hn => hlies n (List.mem_append_right _ hn)
  have hnq := nk q q2
  refine ds_ifR (dte_w (dwe_or (dte_cmp op_ne (de_ask m hr hO hD hok hn ((dp_addL (p := [119, 105, 116, 104, 105, 110, 32] ++ n ++ [32] ++ nl q ++ [32]) (dp_addL (p := [119, 105, 116, 104, 105, 110, 32] ++ n ++ [32] ++ nl q) (dp_addL (p := [119, 105, 116, 104, 105, 110, 32] ++ n ++ [32]) (dp_addL (p := [119, 105, 116, 104, 105, 110, 32] ++ n) (dp_addL (dp_lit [119, 105, 116, 104, 105, 110, 32]) (dp_var 1) (by simp; omega)) (dp_lit [32]) (by simp; omega)) (dp_strN B (dp_var 9) (Nat.lt_of_le_of_lt q2 (by decide))) (by simp; omega)) (dp_lit [32]) (by simp; omega)) (dp_var 7) (by simp; omega)).is (by rw [← hsw q])) (kd_within hvne (by omega)) (htw q q1 q2) (by decide) (by rw [hsw]; simp; omega) (ds := .int q :: v.map .int) (by rw [List.map_cons, xsW_d]; rfl) (.within q v (by omega) hvl (hane _ outsW_len) (by rw [outsW_len]; omega) fun y hy => big_ok (outsW_bd y hy) q2) ⟨_, rfl, de_pure (dp_var 10) ⟨_, _, rfl, rd_neS, ?_⟩⟩))))
  rw [heq, decide_eq_true rfl]
  refine ⟨(fun h => by cases h), fun _ => dwe_or1 (dte_cmp op_ne (de_ask m hr hO hD hok hn ((dp_addL (p := [114, 117, 110, 32] ++ n ++ [32]) (dp_addL (p := [114, 117, 110, 32] ++ n) (dp_addL (dp_lit [114, 117, 110, 32]) (dp_var 1) (by simp; omega)) (dp_lit [32]) (by simp; omega)) (dp_var 7) (by simp; omega)).is (by rw [← hsr])) (kd_run hvne (by omega)) (xs_tw hv.bd) (by decide) (by rw [hsr]; simp; omega) (ds := v.map .int) xsW_d (.run v hv.vl (hane _ outVals_len) (by rw [outVals_len]; omega) fun y hy => big_ok (hov y hy) (by decide)) ⟨_, rfl, de_pure (dp_var 10) ⟨_, _, rfl, rd_neS, ?_⟩⟩))⟩
  rw [decide_eq_true rfl]
  refine ⟨(fun h => by cases h), fun _ => ?_⟩
  refine if1 (dt_neI (dp_len B (dp_var 4)) dp_int) (fun _ => ret1 dp_bl hp) (fun h => ?_)
  have hins : x.ins = 1 := by
    rw [List.length_map, hvl] at h
    have : decide (((x.ins : Nat) : Int) = 1) = true := by
      cases z : decide (((x.ins : Nat) : Int) = 1) with
      | true => rfl
      | false => rw [z] at h; cases h
    have := of_decide_eq_true this
    omega
  have hsg : ∀ q : Nat, sayL [114, 97, 110, 103, 101] [wdH n, wdW q] = [114, 97, 110, 103, 101, 32] ++ n ++ [32] ++ nl q := fun q => by simp [sayL, wdH, wdW, TL.joinL]
  have htr : ∀ q : Nat, 1 ≤ q → q ≤ 3000 → ∀ w ∈ [wdW q], Tw (some (n, x)) w.c w.l w.d ∧ 32 ∉ w.l := fun q h1 h2 w hw => by
    rw [List.mem_singleton.mp hw]
    exact ⟨.K _ _ _ (.W q h1 h2), nl_sp⟩
  have hnk := nk k (by omega)
  have hrb : ∀ q : Nat, ∀ y ∈ [(rngW x q).1, (rngW x q).2], y.natAbs ≤ 2 ^ q := fun q y hy => by
    obtain ⟨a, b⟩ := rngW_lies (x := x) (k := q)
    simp only [List.mem_cons, List.not_mem_nil, or_false] at hy
    rcases hy with rfl | rfl
    · exact lies_bd a
    · exact lies_bd b
  refine setE 8 (de_ask m hr hO hD hok hn ((dp_addL (p := [114, 97, 110, 103, 101, 32] ++ n ++ [32]) (dp_addL (p := [114, 97, 110, 103, 101, 32] ++ n) (dp_addL (dp_lit [114, 97, 110, 103, 101, 32]) (dp_var 1) (by simp; omega)) (dp_lit [32]) (by simp; omega)) (dp_strN B (dp_var 3) (Nat.lt_of_le_of_lt k2 (by decide))) (by simp; omega)).is (by rw [← hsg k])) kd_range (htr k k1 (by omega)) (by decide) (by rw [hsg]; simp; omega) (ds := [.int k]) rfl (.range k hins (sm_8000 hx) k1 (by omega) fun y hy => big_ok (hrb k y hy) (by omega)) ?_)
  obtain ⟨lo, hlo⟩ : ∃ lo, (rngW x k).1 = lo := ⟨_, rfl⟩
  obtain ⟨hi, hhi⟩ : ∃ hi, (rngW x k).2 = hi := ⟨_, rfl⟩
  have hrk : rngW x k = (lo, hi) := by rw [← hlo, ← hhi]
  have hb2 := hrb k
  rw [hlo, hhi] at hb2 ⊢
  have z0 := rngW_zero (x := x) (w := k)
  have zf := range_fits (w := k) hok hins k1
  rw [hrk] at z0 zf
  have lob : lo.natAbs ≤ 2 ^ 140 := Nat.le_trans (hb2 lo (by simp)) (Nat.pow_le_pow_right (by decide) k2)
  have hib : hi.natAbs ≤ 2 ^ 140 := Nat.le_trans (hb2 hi (by simp)) (Nat.pow_le_pow_right (by decide) k2)
  have hpt : ∀ y ∈ [lo, hi], y.natAbs < 10 ^ 60 := fun y hy => Nat.lt_of_le_of_lt (by
    simp only [List.mem_cons, List.not_mem_nil, or_false] at hy
    rcases hy with rfl | rfl
    · exact lob
    · exact hib) (show (2 : Nat) ^ 140 < 10 ^ 60 by decide)
  refine nrm (ρ' := [.ptr kd, .dat (.str (S n)), .dat (encW x), .dat (.int k), .dat (encI v), .dat (encI (x.vals v)), .dat (encI (x.outVals v)), .dat (.str (S (TL.joinL [32] (v.map il)))), .dat (.str (S (TL.joinL [32] ([lo, hi].map il)))), .dat (.int q), .dat (.str (S (TL.joinL [32] ((x.outVals v).map il)))), .un, .un, .un, .un]) ?_
  have l1 : (il lo).length ≤ 61 := il_len (by decide) (hpt lo (by simp))
  have l2 : (il hi).length ≤ 61 := il_len (by decide) (hpt hi (by simp))
  have hjl : (TL.joinL [32] ([lo, hi].map il)).length ≤ 200 := by
    have := joinL_len (sep := [32]) ([lo, hi].map il)
    simp at this ⊢; omega
  refine tup1 (lcp [("_law_part_here", 14)] [lo, hi] (fun y => .str (S (il y))) .int (fun y => [(14, .str (S (il y)))]) (di_list ((dp_split (dp_var 8) (dp_lit [32]) (by decide) (by rw [SX.S_len, sizeLine_eq]; omega)).is ?_)) (fun y _ s H C cl fp => dgn 14) (fun y hy s H C cl fp => ?_) rfl (by simp)) (dg_unl rfl (dgs_cons (dgn 11) (dgs_cons (dgn 12) dgs_nil))) ?_
  · rw [split_sp (by simp) fun p hp => ?_, List.map_map, List.map_map]
    · rfl
    · obtain ⟨y, _, rfl⟩ := List.mem_map.mp hp
      exact il_sp
  · exact dp_intS B (dp_var 14) (il_read (Nat.lt_of_lt_of_le (hpt y hy) (Nat.pow_le_pow_right (by decide) (by decide)))) (by rw [SX.S_len]; have : (il y).length ≤ 61 := il_len (by decide) (hpt y hy); omega)
  refine nrm (ρ' := [.ptr kd, .dat (.str (S n)), .dat (encW x), .dat (.int k), .dat (encI v), .dat (encI (x.vals v)), .dat (encI (x.outVals v)), .dat (.str (S (TL.joinL [32] (v.map il)))), .dat (.str (S (TL.joinL [32] ([lo, hi].map il)))), .dat (.int q), .dat (.str (S (TL.joinL [32] ((x.outVals v).map il)))), .dat (.int lo), .dat (.int hi), .un, .un]) ?_
  refine if1 (dt_w (dw_or (p := false) (q := false) (dt_neT 1 hr.units (d := .tuple [.int lo, .int hi]) (dp_tup (da_cons (dp_var 11) (da_cons (dp_var 12) da_nil))) ((dp_call c3 (hr.mono (by decide)) (by rfl) (da_cons (dp_var 2) (da_cons (dp_var 3) da_nil)) ⟨x, k, hok, hins, sm_8000 hx, k1, by omega, rfl, rfl⟩).is (by rw [hrk]; rfl)) rfl) fun _ => dw_or1 ((dt_not (dt_chain op_le op_le (dp_var 11) dp_int (dp_var 12) rd_IB rd_IB)).is (q := false) (by rw [decide_eq_true z0.1, decide_eq_true z0.2]; rfl)))) (fun h => by cases h) (fun _ => ?_)
  have rg1 : ∀ a b : Int, a.natAbs ≤ 2 ^ 200 → b.natAbs ≤ 2 ^ 200 → Rg x [(a, b)] := fun a b ha hb => ⟨by rw [hins]; rfl, fun p hp => by
    rw [List.mem_singleton.mp hp]
    exact ⟨Nat.le_trans ha (Nat.pow_le_pow_right (by decide) (by decide)), Nat.le_trans hb (Nat.pow_le_pow_right (by decide) (by decide))⟩⟩
  have pl' : (2 : Nat) ^ 140 + 1 ≤ 2 ^ 200 := by decide
  have nf1 : ¬ wfor x [(lo, hi + 1)] ≤ k := range_beyond (y := hi + 1) hok hins k1 (.inr rfl) (by rw [hrk]; right; show hi < hi + 1; omega)
  have nf2 : ¬ wfor x [(lo - 1, 0)] ≤ k := range_beyond (y := lo - 1) hok hins k1 (.inl rfl) (by rw [hrk]; left; show lo - 1 < lo; omega)
  refine if1 (dt_w (dw_or (p := false) (q := false) ((dt_not (dt_val (dp_call c4 (hr.mono (by decide)) (by rfl) (da_cons (dp_var 2) (da_cons (dp_var 3) (da_cons (dp_lst (da_cons (dp_tup (da_cons (dp_var 11) (da_cons (dp_var 12) da_nil))) da_nil)) da_nil))) ⟨x, [(lo, hi)], k, hok, rg1 _ _ (by omega) (by omega), rfl, rfl⟩))).is (by rw [decide_eq_true zf]; rfl)) fun _ => dw_or1 ((dt_val (dp_call c4 (hr.mono (by decide)) (by rfl) (da_cons (dp_var 2) (da_cons (dp_var 3) (da_cons (dp_lst (da_cons (dp_tup (da_cons (dp_var 11) (da_cons (dp_add (dp_var 12) dp_int) da_nil))) da_nil)) da_nil))) ⟨x, [(lo, hi + 1)], k, hok, rg1 _ _ (by omega) (by omega), rfl, rfl⟩)).is (by rw [decide_eq_false nf1])))) (fun h => by cases h) (fun _ => ?_)
  obtain ⟨lo3, hlo3⟩ : ∃ lo, (rngW x 3000).1 = lo := ⟨_, rfl⟩
  obtain ⟨hi3, hhi3⟩ : ∃ hi, (rngW x 3000).2 = hi := ⟨_, rfl⟩
  have hr3 : rngW x 3000 = (lo3, hi3) := by rw [← hlo3, ← hhi3]
  have hb3 := hrb 3000
  rw [hlo3, hhi3] at hb3
  refine tup1 ((dp_call c3 (hr.mono (by decide)) (by rfl) (da_cons (dp_var 2) (da_cons (dp_int (n := 3000)) da_nil)) ⟨x, 3000, hok, hins, sm_8000 hx, by decide, by decide, rfl, rfl⟩).is (d' := .tuple [.int lo3, .int hi3]) (by rw [hr3]; rfl)) (dg_tup rfl (dgs_cons (dgn 11) (dgs_cons (dgn 12) dgs_nil))) ?_
  refine nrm (ρ' := [.ptr kd, .dat (.str (S n)), .dat (encW x), .dat (.int k), .dat (encI v), .dat (encI (x.vals v)), .dat (encI (x.outVals v)), .dat (.str (S (TL.joinL [32] (v.map il)))), .dat (.str (S (TL.joinL [32] ([lo, hi].map il)))), .dat (.int q), .dat (.str (S (TL.joinL [32] ((x.outVals v).map il)))), .dat (.int lo3), .dat (.int hi3), .un, .un]) ?_
  have b3 : ∀ y ∈ [lo3, hi3], y.natAbs < 10 ^ 4300 := fun y hy => big_ok (hb3 y hy) (by decide)
  have m1 : (il lo3).length ≤ 4301 := il_len (by decide) (b3 lo3 (by simp))
  have m2 : (il hi3).length ≤ 4301 := il_len (by decide) (b3 hi3 (by simp))
  have n3 : nl 3000 = [51, 48, 48, 48] := by decide +kernel
  refine ds_ifR (dte_cmp op_ne (de_ask m hr hO hD hok hn (ws := [wdW 3000]) ((dp_addL (p := [114, 97, 110, 103, 101, 32] ++ n) (dp_addL (dp_lit [114, 97, 110, 103, 101, 32]) (dp_var 1) (by simp; omega)) (dp_lit [32, 51, 48, 48, 48]) (by simp; omega)).is (by rw [hsg, n3, List.append_assoc _ [32]]; rfl)) kd_range (htr 3000 (by decide) (by decide)) (by decide) (by rw [hsg, n3]; simp; omega) (ds := [.int 3000]) rfl (.range 3000 hins (sm_8000 hx) (by decide) (by decide) fun y hy => big_ok (hrb 3000 y hy) (by decide)) ⟨_, rfl, de_pure (dp_addL (p := il lo3 ++ [32]) (q := il hi3) (dp_addL (p := il lo3) (q := [32]) ((dp_strB B nd (dp_var 11) (b3 lo3 (by simp))).is (by rw [il_str])) (dp_lit [32]) (by simp; omega)) ((dp_strB B nd (dp_var 12) (b3 hi3 (by simp))).is (by rw [il_str])) (by simp; omega)) ⟨_, _, rfl, rd_neS, ?_⟩⟩))
  have ej : TL.joinL [32] ([(rngW x 3000).1, (rngW x 3000).2].map il) = il lo3 ++ [32] ++ il hi3 := by rw [hlo3, hhi3]; simp [TL.joinL]
  rw [ej, decide_eq_true rfl]
  refine ⟨(fun h => by cases h), fun _ => ?_⟩
  refine ret1 (dp_not (dp_call c4 (hr.mono (by decide)) (by rfl) (da_cons (dp_var 2) (da_cons (dp_var 3) (da_cons (dp_lst (da_cons (dp_tup (da_cons (dp_sub (dp_ixT (d := .int lo) ((dp_call c3 (hr.mono (by decide)) (by rfl) (da_cons (dp_var 2) (da_cons (dp_var 3) da_nil)) ⟨x, k, hok, hins, sm_8000 hx, k1, by omega, rfl, rfl⟩).is (d' := .tuple [.int lo, .int hi]) (by rw [hrk]; rfl)) dp_int (at0 _ _)) dp_int) (da_cons dp_int da_nil))) da_nil)) da_nil))) ⟨x, [(lo - 1, 0)], k, hok, rg1 _ _ (by omega) (by decide), rfl, rfl⟩)) ?_
  rw [decide_eq_false nf2]; exact hp
end
end SS
set_option maxHeartbeats 4000000
set_option exponentiation.threshold 9000
/-! The walks, nineteen: the law. -/
namespace SS
open PySem PySem.Spec PyProof.Rows L2
open SX (S)
def R_law (ds : List PyData) (d : PyData) : Prop := ∃ ns : List Int, ns.length ≤ 63 ∧ ds = [mkL (ns.map .int)] ∧ d = .bool true
section
variable {O L : Rs} {i : Nat} {c x y : Ow}
theorem zg : (O ++ L)[O.length + i]? = L[i]? := by rw [List.getElem?_append_right (by omega), Nat.add_sub_cancel_left]
theorem zs : (O ++ L).set (O.length + i) x = O ++ L.set i x := by rw [List.set_append_right _ _ (by omega), Nat.add_sub_cancel_left]
theorem zg0 : (O ++ (c :: L))[O.length]? = some c := by have := zg (O := O) (L := c :: L) (i := 0); rw [Nat.add_zero] at this; rw [this]; rfl
theorem zs0 : (O ++ (c :: L)).set O.length x = O ++ (x :: L) := by have := zs (O := O) (L := c :: L) (i := 0) (x := x); rw [Nat.add_zero] at this; rw [this]; rfl
theorem Closed.app (h : Closed O) (hl : ∀ c ∈ L, c.below (O.length + L.length)) : Closed (O ++ L) := by
  intro c hc
  rw [List.length_append]
  rcases List.mem_append.mp hc with q | q
  · have mono : ∀ (c : Ow) (n m : Nat), n ≤ m → c.below n → c.below m := fun c n m hm hb => by
      have sv : ∀ s : SV, s.below n → s.below m := fun s h => by
        cases s with
        | ptr k => exact Nat.lt_of_lt_of_le h hm
        | _ => trivial
      cases c with
      | lst xs => exact fun x hx => sv x (hb x hx)
      | dT kvs => exact fun x hx => sv _ (hb x hx)
      | dK kvs => exact fun x hx => sv _ (hb x hx)
      | ins C fs => exact fun x hx => sv _ (hb x hx)
      | dead => trivial
    exact mono c _ _ (Nat.le_add_right _ _) (h c q)
  · exact hl c q
end
section
variable {P : Program} {w : World} {K : PySem.W.Frag} {mg : Str → Option Value} {base : Heap} {C : Addr}
theorem sc_137 : FnScope ["_law_script", "_law_k", "_law_feed_here", "_law_up", "_law_lines_here", "_law_rows", "_law_outs", "_law_text", "_law_values_here", "_law_web", "_law_desk", "_law_name", "_law_plain", "_law_tail", "_law_width", "_law_other", "_law_row"] ["_law_script"] (defScope (top 137)) := ⟨rfl, rfl, rfl, by decide +kernel, rfl, by decide +kernel, by decide +kernel⟩
set_option maxHeartbeats 8000000 in
theorem fn_law (B : Bi mg) (kc : KCal P w K mg base C "Desk" 1 ["self"] (spS K (S_dinit C)))
    (a1 : Cal P w K mg base "_law_feed" 1 ["_law_script", "_law_k"] (spS K S_feed)) (a2 : Cal P w K mg base "_law_take" 5 ["_law_feed_here", "_law_many"] (spS K S_take')) (a3 : Cal P w K mg base "_law_lines" 7 ["_law_feed_here", "_law_ins", "_law_up"] (spS K S_lines)) (a4 : Cal P w K mg base "_law_values" 6 ["_law_feed_here", "_law_ins"] (spS K S_values)) (a5 : Cal P w K mg base "_law_names" 6 ["_law_feed_here", "_law_many"] (spS K S_names)) (a6 : Cal P w K mg base "_law_sums" 1 ["_law_rows", "_law_values_here"] (spP K R_sums)) (a7 : Cal P w K mg base "_law_told" 10 ["_law_desk", "_law_name", "_law_lines_here"] (spS K (S_told C))) (a8 : Cal P w K mg base "_law_wide" 9 ["_law_web", "_law_width", "_law_values_here", "_law_plain", "_law_ends_here"] (spP K R_lwide)) (a9 : Cal P w K mg base "_law_at_desk" 10 ["_law_desk", "_law_name", "_law_web", "_law_width", "_law_values_here", "_law_plain", "_law_tail"] (spS K (S_atdesk C))) (a10 : Cal P w K mg base "_law_turned" 7 ["_law_text", "_law_web", "_law_outs"] (spP K R_lturned))
    (c1 : Cal P w K mg base "read" 5 ["text"] (spP K R_read)) (c2 : Cal P w K mg base "shown" 3 ["web"] (spP K R_shown)) (c3 : Cal P w K mg base "out_numbers" 6 ["web"] (spP K R_outnumbers)) (c4 : Cal P w K mg base "run" 2 ["web", "values"] (spP K R_run)) (c5 : Cal P w K mg base "run_outs" 3 ["web", "values"] (spP K R_runouts)) (c6 : Cal P w K mg base "pruned" 2 ["web"] (spP K R_pruned)) (c7 : Cal P w K mg base "bare" 6 ["web"] (spP K R_bare)) {f : Addr} {fd : FuncData} (Fn : Fun K "law" "law" (top 137) f fd) : FnOk P w K mg base CX0 11 f fd ["_law_script"] (spP K R_law) := by
  refine fn_P (N := ["_law_script", "_law_k", "_law_feed_here", "_law_up", "_law_lines_here", "_law_rows", "_law_outs", "_law_text", "_law_values_here", "_law_web", "_law_desk", "_law_name", "_law_plain", "_law_tail", "_law_width", "_law_other", "_law_row"]) Fn sc_137 (by rintro ds d ⟨ns, _, rfl, _⟩; rfl) (by decide) (fun cdv A outer sh H E hr ds d h => ?_)
  obtain ⟨ns, hns, rfl, rfl⟩ := h
  have hr' : Room 10 (bX P w K mg base ["_law_script", "_law_k", "_law_feed_here", "_law_up", "_law_lines_here", "_law_rows", "_law_outs", "_law_text", "_law_values_here", "_law_web", "_law_desk", "_law_name", "_law_plain", "_law_tail", "_law_width", "_law_other", "_law_row"] "law" (top 137) f cdv A outer sh H E).A := hr
  have r1 := hr'.mono (j := 1) (by decide)
  have r5 := hr'.mono (j := 5) (by decide)
  have r6 := hr'.mono (j := 6) (by decide)
  have r3 := hr'.mono (j := 3) (by decide)
  show DS _ _ [.dat (mkL (ns.map .int)), .un, .un, .un, .un, .un, .un, .un, .un, .un, .un, .un, .un, .un, .un, .un, .un] [] _ _
  refine ds_for (die_rng1 rfl B.range (de_pure (dp_max2 B (dp_int (n := 1)) (dp_min2 B (dp_int (n := 6)) (dp_lenF B (dp_var 0)))) ⟨_, rfl, by split <;> split <;> omega, by split <;> split <;> omega, fun i ρ' O' => (∃ x1 x2 x3 x4 x5 x6 x7 x8 x9 x10 x11 x12 x13 x14 x15 x16, ρ' = [.dat (mkL (ns.map .int)), x1, x2, x3, x4, x5, x6, x7, x8, x9, x10, x11, x12, x13, x14, x15, x16]) ∧ Closed O', ⟨⟨_, _, _, _, _, _, _, _, _, _, _, _, _, _, _, _, rfl⟩, fun c hc => by cases hc⟩, ?_, ?_⟩))
  · rintro i d ρ' O hxi ⟨⟨x1, x2, x3, x4, x5, x6, x7, x8, x9, x10, x11, x12, x13, x14, x15, x16, rfl⟩, hO⟩
    obtain ⟨hi, rfl⟩ := rngD_get hxi
    have hi6 : i < 6 := by split at hi <;> split at hi <;> omega
    clear hxi hi
    refine ⟨[(1, _)], dgn 1, nrm (ρ' := [.dat (mkL (ns.map .int)), .dat (.int (0 + (i : Nat))), x2, x3, x4, x5, x6, x7, x8, x9, x10, x11, x12, x13, x14, x15, x16]) ?_⟩
    -- the feed
    refine setE 2 (de_call a1 r1 (by rfl) (dae_pure (da_cons (dp_var 0) (da_cons (dp_var 1) da_nil)) ⟨ns, i, by omega, by rw [show (0 : Int) + (i : Nat) = ((i : Nat) : Int) by omega]; rfl, fun f0 hf0 => ?_⟩))
    refine nrm (ρ' := [.dat (mkL (ns.map .int)), .dat (.int (0 + (i : Nat))), .ptr O.length, x3, x4, x5, x6, x7, x8, x9, x10, x11, x12, x13, x14, x15, x16]) ?_
    have hcl1 : ∀ (n : Nat) (c : Ow), FdO n c → Closed (O ++ [c]) := fun n c h => hO.app fun x hx => by rw [List.mem_singleton.mp hx]; exact h.below
    -- up
    refine setE 3 (de_cmp op_eq (de_take a2 r5 (de_pure (dp_int (n := 2)) ⟨rfl, rfl⟩) zg0 hf0 (by decide) (by decide) (by omega) (fun y f1 y0 y1 hf1 => ⟨_, rfl, de_pure dp_int ⟨_, _, rfl, rd_eqI, ?_⟩⟩) (hv := de_var 2 rfl ⟨rfl, rfl⟩)))
    rw [zs0]
    generalize decide (y = 0) = up
    refine nrm (ρ' := [.dat (mkL (ns.map .int)), .dat (.int (0 + (i : Nat))), .ptr O.length, .dat (.bool up), x4, x5, x6, x7, x8, x9, x10, x11, x12, x13, x14, x15, x16]) ?_
    -- lines
    refine tupE (de_call a3 (hr'.mono (by decide)) (by rfl) (dae_cons (de_var 2 rfl (dae_cons (de_bin op_add (de_pure (dp_int (n := 1)) ⟨_, rfl, de_take a2 r5 (de_pure (dp_int (n := 4)) ⟨rfl, rfl⟩) zg0 hf1 (by decide) (by decide) (by omega) (fun y' f2 y0' y1' hf2 => ⟨_, _, rfl, rd_II, ?_⟩) (hv := de_var 2 rfl ⟨rfl, rfl⟩)⟩))))))
    rw [zs0]
    obtain ⟨m, hm⟩ := Int.eq_ofNat_of_zero_le (show 0 ≤ 1 + y' by omega)
    rw [hm]
    refine dae_cons (de_pure (dp_var 3) (dae_nil ⟨O.length, _, m, up, f2, rfl, zg0, hcl1 _ f2 hf2, hf2, by omega, by omega, by omega, fun x f3 hx hxi hf3 => ⟨_, _, rfl, dg_tup rfl (dgs_cons (dgn 4) (dgs_cons (dgn 5) (dgs_cons (dgn 6) dgs_nil))), ?_⟩⟩))
    rw [zs0]
    clear hf0 hf1 hf2
    refine nrm (ρ' := [.dat (mkL (ns.map .int)), .dat (.int (0 + (i : Nat))), .ptr O.length, .dat (.bool up), .dat (encSs x.linesL), .dat (encLs x.rows), .dat (encLs x.outRows), x7, x8, x9, x10, x11, x12, x13, x14, x15, x16]) ?_
    have hok := hx.ok
    have i1 := hx.i1
    have i4 := hx.i4
    have d9 := hx.d9
    have o1 := hx.o1
    have o4 := hx.o4
    -- text
    refine set1 7 (d := .str x.text) ((dp_join (ys := x.linesL.map S) (dp_lit [10]) ((dp_var 4).is (by unfold encSs; rw [List.map_map]; rfl)) ?_).is (by rw [SX.join_S]; rfl)) ?_
    · have := hok.sums
      have := hok.nlines
      rw [SX.lens, List.length_map, SX.S_len]
      simp only [List.length_cons, List.length_nil]
      omega
    -- values
    have hr0 : atI (x.rows.map encL) 0 = some (encL (x.rows.getD 0 [])) := rl_at' (a := 0) (by show 0 < (rows x.ins x.deeds).length; rw [rows_len]; omega)
    have hrl0 : (x.rows.getD 0 []).length = x.ins := rows_width hx.ds _ (getD_mem (by rw [rows_len]; omega))
    refine setE 8 (de_call a4 r6 (by rfl) (dae_cons (de_var 2 rfl (dae_cons (de_pure ((dp_len B (dp_ixL (dp_var 5) dp_int hr0)).is (d' := .int (x.ins : Nat)) (by rw [List.length_map, hrl0])) (dae_nil ⟨O.length, _, x.ins, f3, rfl, zg0, hf3, by omega, i4, fun v f4 hvl hvb hf4 => ?_⟩))))))
    rw [zs0, List.append_assoc, List.length_append]
    have hv : Vv x v := ⟨hvl, hvb⟩
    refine ds_freeze (O.length + 1) 8 (ds := v.map PyData.int) rfl (by rw [zg]; rfl) ?_
    rw [zs]
    refine nrm (ρ' := [.dat (mkL (ns.map .int)), .dat (.int (0 + (i : Nat))), .ptr O.length, .dat (.bool up), .dat (encSs x.linesL), .dat (encLs x.rows), .dat (encLs x.outRows), .dat (.str x.text), .dat (encI v), x9, x10, x11, x12, x13, x14, x15, x16]) ?_
    show DS _ _ _ (O ++ [f4, .dead]) _ _
    -- web
    refine set1 9 (d := encW x) (dp_call c1 r5 (by rfl) (da_cons (dp_var 7) da_nil) ⟨x, hok, rfl, rfl⟩) ?_
    -- desk
    refine setE 10 (de_make0 kc (hr'.mono (by decide)) (by rfl) ⟨(O ++ [f4, Ow.dead]).length, by simp, rfl, by simp, rfl, ?_⟩)
    have hobj : ((((O ++ [f4, Ow.dead]) ++ [Ow.ins C []]) ++ [Ow.dK []]).set (O ++ [f4, Ow.dead]).length (.ins C [("webs", .ptr ((O ++ [f4, Ow.dead]) ++ [Ow.ins C []]).length)])) = O ++ [f4, .dead, .ins C [("webs", .ptr (O.length + 3))], .dK (tabO none)] := by
      rw [List.append_assoc, List.append_assoc, List.length_append, List.length_append, List.length_append]
      show (O ++ [f4, .dead, .ins C [], .dK []]).set (O.length + 2) _ = _
      rw [zs]; rfl
    rw [hobj]
    refine nrm (ρ' := [.dat (mkL (ns.map .int)), .dat (.int (0 + (i : Nat))), .ptr O.length, .dat (.bool up), .dat (encSs x.linesL), .dat (encLs x.rows), .dat (encLs x.outRows), .dat (.str x.text), .dat (encI v), .dat (encW x), .ptr (O.length + 2), x11, x12, x13, x14, x15, x16]) ?_ (by rw [List.length_append]; rfl)
    have hcl2 : ∀ (n : Nat) (c : Ow) (t : Option (List Nat × Web)), FdO n c → Closed (O ++ [c, .dead, .ins C [("webs", .ptr (O.length + 3))], .dK (tabO t)]) := fun n c t h => hO.app fun z hz => by
      simp only [List.mem_cons, List.not_mem_nil, or_false] at hz
      rcases hz with rfl | rfl | rfl | rfl
      · exact h.below
      · trivial
      · intro y hy
        rw [List.mem_singleton.mp hy]
        show O.length + 3 < O.length + 4
        omega
      · exact tab_below _ _
    have hDk : ∀ (c : Ow) (t : Option (List Nat × Web)), Dk C (O ++ [c, .dead, .ins C [("webs", .ptr (O.length + 3))], .dK (tabO t)]) (O.length + 2) (O.length + 3) t := fun c t => ⟨by rw [zg]; rfl, by rw [zg]; rfl⟩
    -- name
    refine setE 11 (de_ix ix_list (de_call a5 r6 (by rfl) (dae_cons (de_var 2 rfl (dae_cons (de_pure dp_int (dae_nil ⟨O.length, _, f4, rfl, zg0, hcl2 _ f4 none hf4, hf4, by omega, fun l f5 hl hf5 => ⟨_, rfl, de_pure dp_int ⟨_, _, rfl, rd_ixL (at0 _ _), ?_⟩⟩⟩)))))))
    rw [zs0]
    refine nrm (ρ' := [.dat (mkL (ns.map .int)), .dat (.int (0 + (i : Nat))), .ptr O.length, .dat (.bool up), .dat (encSs x.linesL), .dat (encLs x.rows), .dat (encLs x.outRows), .dat (.str x.text), .dat (encI v), .dat (encW x), .ptr (O.length + 2), .dat (.str (S l)), x12, x13, x14, x15, x16]) ?_
    -- the text, the desk told
    refine ds_ifR (dte_w (dwe_or (dte_pure ((dt_neS (dp_call c2 r3 (by rfl) (da_cons (dp_var 9) da_nil) ⟨x, hok, rfl, rfl⟩) (dp_var 7)).is (q := false) (by rw [decide_eq_true rfl]; rfl)) ⟨(fun h => by cases h), fun _ => dwe_or1 (dte_not (dte_val (de_call a7 hr' (by rfl) (dae_cons (de_var 10 rfl (dae_pure (da_cons (dp_var 11) (da_cons (dp_var 4) da_nil)) ⟨O.length + 2, O.length + 3, up, x, l, rfl, hcl2 _ f5 none hf5, hDk f5 none, hl, hx, true, rfl, (fun h => by cases h), fun _ => ?_⟩))))))⟩)))
    have hset : (O ++ [f5, .dead, .ins C [("webs", .ptr (O.length + 3))], .dK (tabO none)]).set (O.length + 3) (.dK (tabO (some (l, x)))) = O ++ [f5, .dead, .ins C [("webs", .ptr (O.length + 3))], .dK (tabO (some (l, x)))] := by rw [zs]; rfl
    rw [hset]
    -- plain sums
    have hb1 : ∀ r ∈ x.rows, r.length ≤ 12 ∧ ∀ y ∈ r, y.natAbs ≤ 2 ^ 1000 := fun r hr => ⟨by rw [hx.len r (List.mem_append_left _ hr)]; omega, fun y hy => up_pow (by decide) (hx.all_bd r (List.mem_append_left _ hr) y hy)⟩
    have hb2 : ∀ r ∈ x.outRows, r.length ≤ 12 ∧ ∀ y ∈ r, y.natAbs ≤ 2 ^ 1000 := fun r hr => ⟨by rw [hx.len r (List.mem_append_right _ hr)]; omega, fun y hy => up_pow (by decide) (hx.all_bd r (List.mem_append_right _ hr) y hy)⟩
    have hrl : x.rows.length ≤ 100 := by show (rows x.ins x.deeds).length ≤ _; rw [rows_len]; omega
    refine set1 12 (d := encI (x.vals v)) ((dp_call a6 r1 (by rfl) (da_cons (dp_var 5) (da_cons (dp_var 8) da_nil)) ⟨x.rows, v, hrl, by omega, hb1, hv.vl.2, rfl, rfl⟩).is (by rw [vals_rows hx.ds hvl])) ?_
    refine set1 13 (d := encI (x.outVals v)) ((dp_call a6 r1 (by rfl) (da_cons (dp_var 6) (da_cons (dp_var 8) da_nil)) ⟨x.outRows, v, by rw [outRows_len]; omega, by omega, hb2, hv.vl.2, rfl, rfl⟩).is (by rw [outVals_rows hok hvl])) ?_
    refine nrm (ρ' := [.dat (mkL (ns.map .int)), .dat (.int (0 + (i : Nat))), .ptr O.length, .dat (.bool up), .dat (encSs x.linesL), .dat (encLs x.rows), .dat (encLs x.outRows), .dat (.str x.text), .dat (encI v), .dat (encW x), .ptr (O.length + 2), .dat (.str (S l)), .dat (encI (x.vals v)), .dat (encI (x.outVals v)), x14, x15, x16]) ?_
    refine if1 (dt_neT 2 hr'.units (d := encTs x.outRows) (dp_call c3 r6 (by rfl) (da_cons (dp_var 9) da_nil) ⟨x, hok, rfl, rfl⟩) (lcp [("_law_row", 16)] x.outRows encL encT (fun r => [(16, encL r)]) (di_list (dp_var 6)) (fun r _ s H C cl fp => dgn 16) (fun r hr' s H C cl fp => ?_) rfl ?_) pl_encTs) (fun h => by cases h) (fun _ => ?_)
    · exact dp_tupL B (dp_var 16)
    · rw [outRows_len]; omega
    refine if1 (dt_w (dw_or (p := false) (q := false) (dt_neT 1 hr'.units (d := encI (x.vals v)) (dp_call c4 (hr'.mono (by decide)) (by rfl) (da_cons (dp_var 9) (da_cons (dp_list B (dp_var 8)) da_nil)) ⟨x, v, hok, hv.vl, rfl, rfl⟩) (dp_var 12) pl_encI) fun _ => dw_or1 (dt_neT 1 hr'.units (d := encI (x.outVals v)) (dp_call c5 r3 (by rfl) (da_cons (dp_var 9) (da_cons (dp_list B (dp_var 8)) da_nil)) ⟨x, v, hok, hv.vl, rfl, rfl⟩) (dp_var 13) pl_encI))) (fun h => by cases h) (fun _ => ?_)
    -- the width
    refine setE 14 (de_bin op_add (de_pure (dp_int (n := 1)) ⟨_, rfl, de_take a2 r5 (de_pure (dp_int (n := 140)) ⟨rfl, rfl⟩) zg0 hf5 (by decide) (by decide) (by omega) (fun y2 f6 u0 u1 hf6 => ⟨_, _, rfl, rd_II, ?_⟩) (hv := de_var 2 rfl ⟨rfl, rfl⟩)⟩))
    rw [zs0]
    obtain ⟨k, hk⟩ := Int.eq_ofNat_of_zero_le (show 0 ≤ 1 + y2 by omega)
    rw [hk]
    have k1 : 1 ≤ k := by omega
    have k2 : k ≤ 140 := by omega
    refine nrm (ρ' := [.dat (mkL (ns.map .int)), .dat (.int (0 + (i : Nat))), .ptr O.length, .dat (.bool up), .dat (encSs x.linesL), .dat (encLs x.rows), .dat (encLs x.outRows), .dat (.str x.text), .dat (encI v), .dat (encW x), .ptr (O.length + 2), .dat (.str (S l)), .dat (encI (x.vals v)), .dat (encI (x.outVals v)), .dat (.int k), x15, x16]) ?_
    refine if1 ((dt_not (dt_val (dp_call a8 (hr'.mono (by decide)) (by rfl) (da_cons (dp_var 9) (da_cons (dp_var 14) (da_cons (dp_var 8) (da_cons (dp_var 12) (da_cons (dp_var 13) da_nil))))) ⟨up, x, v, k, hx, hv, k1, k2, rfl, rfl⟩))).is (q := false) rfl) (fun h => by cases h) (fun _ => ?_)
    refine ds_ifR (dte_not (dte_val (de_call a9 hr' (by rfl) (dae_cons (de_var 10 rfl (dae_pure (da_cons (dp_var 11) (da_cons (dp_var 9) (da_cons (dp_var 14) (da_cons (dp_var 8) (da_cons (dp_var 12) (da_cons (dp_var 13) da_nil)))))) ⟨O.length + 2, O.length + 3, up, x, l, v, k, rfl, hcl2 _ f6 _ hf6, hDk f6 _, hl, hx, hv, k1, k2, true, rfl, (fun h => by cases h), fun _ => ?_⟩))))))
    -- tidied
    have p1 := hx.pruned
    obtain ⟨q1, q2, q3⟩ := hx.bare
    obtain ⟨s1, s2, s3, s4⟩ := hx.bare2
    have r6' := hr'.mono (j := 6) (by decide)
    have r2 := hr'.mono (j := 2) (by decide)
    refine ds_for (die_pure (di_list (xs := [encW x.pruned, encW x.bare, encW x.pruned.bare]) (dp_lst (da_cons (dp_call c6 r2 (by rfl) (da_cons (dp_var 9) da_nil) ⟨x, hok, rfl, rfl⟩) (da_cons (dp_call c7 r6' (by rfl) (da_cons (dp_var 9) da_nil) ⟨x, hok, q1, q2, rfl, rfl⟩) (da_cons (dp_call c7 r6' (by rfl) (da_cons (dp_call c6 r2 (by rfl) (da_cons (dp_var 9) da_nil) ⟨x, hok, rfl, rfl⟩) da_nil) ⟨x.pruned, s1, s2, s3, rfl, rfl⟩) da_nil))))) ⟨fun j ρ' O' => (∃ x15 x16, ρ' = [.dat (mkL (ns.map .int)), .dat (.int (0 + (i : Nat))), .ptr O.length, .dat (.bool up), .dat (encSs x.linesL), .dat (encLs x.rows), .dat (encLs x.outRows), .dat (.str x.text), .dat (encI v), .dat (encW x), .ptr (O.length + 2), .dat (.str (S l)), .dat (encI (x.vals v)), .dat (encI (x.outVals v)), .dat (.int k), x15, x16]) ∧ O' = O ++ [f6, .dead, .ins C [("webs", .ptr (O.length + 3))], .dK (tabO (some (l, x)))], ⟨⟨_, _, rfl⟩, rfl⟩, ?_, ?_⟩)
    · rintro j d ρ' O' hxj ⟨⟨x15, x16, rfl⟩, rfl⟩
      obtain ⟨y, hy, rfl⟩ : ∃ y, Same2 x y ∧ d = encW y := by
        have hj : j < 3 := (List.getElem?_eq_some_iff.mp hxj).1
        obtain rfl | rfl | rfl : j = 0 ∨ j = 1 ∨ j = 2 := by omega
        · exact ⟨_, p1, by injection hxj with h; exact h.symm⟩
        · exact ⟨_, q3, by injection hxj with h; exact h.symm⟩
        · exact ⟨_, s4, by injection hxj with h; exact h.symm⟩
      refine ⟨[(15, _)], dgn 15, nrm (ρ' := [.dat (mkL (ns.map .int)), .dat (.int (0 + (i : Nat))), .ptr O.length, .dat (.bool up), .dat (encSs x.linesL), .dat (encLs x.rows), .dat (encLs x.outRows), .dat (.str x.text), .dat (encI v), .dat (encW x), .ptr (O.length + 2), .dat (.str (S l)), .dat (encI (x.vals v)), .dat (encI (x.outVals v)), .dat (.int k), .dat (encW y), x16]) ?_⟩
      have hvy : Vl y v := ⟨by rw [hy.ins]; exact hvl, hv.vl.2⟩
      refine if1 (dt_w (dw_or (p := false) (q := false) (dt_neT 1 hr'.units (d := encI (x.outVals v)) ((dp_call c5 r3 (by rfl) (da_cons (dp_call c1 r5 (by rfl) (da_cons (dp_call c2 r3 (by rfl) (da_cons (dp_var 15) da_nil) ⟨y, hy.ok, rfl, rfl⟩) da_nil) ⟨y, hy.ok, rfl, rfl⟩) (da_cons (dp_list B (dp_var 8)) da_nil)) ⟨y, v, hy.ok, hvy, rfl, rfl⟩).is (by rw [hy.vals hok hvl])) (dp_var 13) pl_encI) fun _ => dw_or1 ((dt_gt (dp_len B (dp_ixT (d := .list (y.deeds.map encD)) (dp_var 15) dp_int rfl)) (dp_len B (dp_ixT (d := .list (x.deeds.map encD)) (dp_var 9) dp_int rfl))).is (q := false) (by rw [List.length_map, List.length_map]; exact decide_eq_false (by have := hy.len; omega))))) (fun h => by cases h) (fun _ => ds_nil ⟨⟨_, _, rfl⟩, rfl⟩)
    · rintro ρ' O' ⟨⟨x15, x16, rfl⟩, rfl⟩
      refine if1 ((dt_w (dw_and (q := false) (dt_val (dp_var 3)) fun h => dw_and1 ((dt_not (dt_val (dp_call a10 (hr'.mono (by decide)) (by rfl) (da_cons (dp_var 7) (da_cons (dp_var 9) (da_cons (dp_var 6) da_nil))) ⟨x, h ▸ hx, rfl, rfl⟩))).is (q := false) rfl))).is (q := false) (by rw [Bool.and_false])) (fun h => by cases h) (fun _ => ds_nil ⟨⟨_, _, _, _, _, _, _, _, _, _, _, _, _, _, _, _, rfl⟩, hcl2 _ f6 _ hf6⟩)
  · rintro ρ' O' ⟨⟨x1, x2, x3, x4, x5, x6, x7, x8, x9, x10, x11, x12, x13, x14, x15, x16, rfl⟩, _⟩
    exact ret1 dp_bl rfl
end
end SS
set_option maxHeartbeats 8000000
/-! The join: the head's facts, every promise, the law. -/
namespace SS
open PySem PySem.Spec PyProof.Rows L2
open SX (S)
theorem fun_of {K : PySem.W.Frag} {x q : Str} {st : Stmt} {f : Addr} {fd : FuncData} (F : FunD K x q (defArgs st) (defBody st) (defScope st) [] [] f fd) : Fun K x q st f fd := by
  obtain ⟨oc, od, dV, kV, doc, pm, an, cdv, ct, osl, e, lk, hcd, hD, hK⟩ := F.ex
  rcases hD with ⟨_, rfl⟩ | ⟨z, _⟩
  · exact ⟨⟨oc, od, kV, doc, pm, an, cdv, ct, osl, e, lk, hcd⟩, F.kp⟩
  · exact absurd rfl z
section
variable {K : PySem.W.Frag} {h : Heap} {mg : Str → Option Value}
theorem df_of (c : He.SaysD HD.fa HD.fn K) (X : K.In h) (G : h.Ns mainGlobals mg) (i : Nat) {x q : Str} {st : Stmt} {ps : List Str} (h1 : HD.fn[i]? = some (HD.dfn x q st)) (h2 : HD.fa[i]? = some (.glo x))
    (hb : ∀ (kV doc pm : Value) (an : Option Addr) (cdv ct : Value) (us : List Value), us.length = ps.length → bindArgs (PySem.W.fnOf q q (defArgs st) (defBody st) (defScope st) .none kV doc pm an cdv ct) ⟨us, []⟩ = pure (ps.zip us)) : Df K mg x q st ps := by
  obtain ⟨fd, F⟩ := c.def_ i h1
  exact ⟨_, fd, fun_of F, He.glo_ok X G (c.fact i h2), FunD.bindsN F hb⟩
theorem mf_of (c : He.SaysD HD.fa HD.fn K) (i j : Nat) {C m q : Str} {st : Stmt} {ps : List Str} (h1 : HD.fn[i]? = some (HD.dfm C m q st)) (h2 : HD.fa[j]? = some (.meth C m))
    (hb : ∀ (kV doc pm : Value) (an : Option Addr) (cdv ct : Value) (us : List Value), us.length = ps.length → bindArgs (PySem.W.fnOf m q (defArgs st) (defBody st) (defScope st) .none kV doc pm an cdv ct) ⟨us, []⟩ = pure (ps.zip us)) : Mf K (He.ga K C) m q st ps := by
  obtain ⟨fd, F⟩ := c.def_ i h1
  exact ⟨_, fd, fun_of F, He.meth_ok (c.fact j h2), FunD.bindsN F hb⟩
end
theorem ex_all {K : PySem.W.Frag} {w : World} {h : Heap} {mg : Str → Option Value} (X : K.In h) (G : h.Ns mainGlobals mg) (c : HD.lk K = HD.valS w) : He.SaysD HD.fa HD.fn K ∧ ND K ∧ NF K mg ∧ KD K w mg "ROWS" rowsT ∧ KD K w mg "BOUNDS" boundsT := by
  have ct : He.SaysT HD.fa HD.fn HD.ts w K := congrArg (fun z : HD.AlS => z.1) c
  have ce : HD.ex K = true := congrArg (fun z : HD.AlS => z.2) c
  have d := ct.d
  unfold HD.ex at ce
  obtain ⟨e1, ce⟩ := He.ba ce
  obtain ⟨e2, ce⟩ := He.ba ce
  obtain ⟨r1, ce⟩ := He.ba ce
  obtain ⟨r2, ce⟩ := He.ba ce
  obtain ⟨r3, ce⟩ := He.ba ce
  obtain ⟨r4, ce⟩ := He.ba ce
  obtain ⟨r5, ce⟩ := He.ba ce
  obtain ⟨r6, ce⟩ := He.ba ce
  obtain ⟨r7, ce⟩ := He.ba ce
  obtain ⟨b1, ce⟩ := He.ba ce
  obtain ⟨b2, b3⟩ := He.ba ce
  have si : ∀ (F : Hp) (z : Str) (n : Int), Reps K F [.str z, .int n] [.str z, .int n] := fun F z n => .cons (.str z) (.cons (.int n) .nil)
  have ii : ∀ (F : Hp) (a b : Int), Reps K F [.int a, .int b] [.int a, .int b] := fun F a b => .cons (.int a) (.cons (.int b) .nil)
  refine ⟨d, HD.ndB_ok e1, ⟨_, He.glo_ok X G (d.fact 96 (f := .glo "NOUGHT") rfl), fun F => .tup (HD.tupAt_ok e2 F) (.cons (.int 0) (.cons (.int 0) (.cons (.int 0) .nil)))⟩, ?_, ?_⟩
  · obtain ⟨es, n, kd⟩ := ct.tab 0 rfl
    refine ⟨_, es, n, kd, He.glo_ok X G (d.fact 97 (f := .glo "ROWS") rfl), fun z hz => ?_, fun z dd hz => ?_⟩
    · simp [rowsT] at hz
    · simp only [rowsT, List.mem_cons, List.not_mem_nil, or_false, Prod.mk.injEq, Option.some.injEq] at hz
      rcases hz with ⟨rfl, rfl⟩ | ⟨rfl, rfl⟩ | ⟨rfl, rfl⟩ | ⟨rfl, rfl⟩ | ⟨rfl, rfl⟩ | ⟨rfl, rfl⟩ | ⟨rfl, rfl⟩
      · exact HD.rowAt_ok r1 fun F => si F _ _
      · exact HD.rowAt_ok r2 fun F => si F _ _
      · exact HD.rowAt_ok r3 fun F => si F _ _
      · exact HD.rowAt_ok r4 fun F => si F _ _
      · exact HD.rowAt_ok r5 fun F => si F _ _
      · exact HD.rowAt_ok r6 fun F => si F _ _
      · exact HD.rowAt_ok r7 fun F => si F _ _
  · obtain ⟨es, n, kd⟩ := ct.tab 1 rfl
    refine ⟨_, es, n, kd, He.glo_ok X G (d.fact 98 (f := .glo "BOUNDS") rfl), fun z hz => ?_, fun z dd hz => ?_⟩
    · simp only [boundsT, List.mem_cons, List.not_mem_nil, or_false, Prod.mk.injEq, reduceCtorEq, and_false, false_or, and_true] at hz
      subst hz
      exact He.eqO_ok b3
    · simp only [boundsT, List.mem_cons, List.not_mem_nil, or_false, Prod.mk.injEq, Option.some.injEq, reduceCtorEq, and_false] at hz
      rcases hz with ⟨rfl, rfl⟩ | ⟨rfl, rfl⟩
      · exact HD.rowAt_ok b1 fun F => ii F _ _
      · exact HD.rowAt_ok b2 fun F => ii F _ _
theorem law_ok {P : Program} {w : World} {K : PySem.W.Frag} {h : Heap} {mg : Str → Option Value} {f : Addr} (X : K.In h) (G : h.Ns mainGlobals mg) (hfa : mg ("law" : Str) = some (.ref f)) (cc : HD.lk K = HD.valS w) :
    ∃ fd : FuncData, (∀ (s : Shared) (v : Value), BindsTo s fd ⟨[v], []⟩ [("_law_script", v)]) ∧ ∀ base : Heap, FnOk P w K mg base CX0 11 f fd ["_law_script"] (spP K R_law) := by
  obtain ⟨c, nd, nf, kr, kb⟩ := ex_all X G cc
  have B : Bi mg := ⟨He.free_ok X G (c.fact 68 (f := .free "len") rfl), He.free_ok X G (c.fact 69 (f := .free "abs") rfl), He.free_ok X G (c.fact 70 (f := .free "max") rfl), He.free_ok X G (c.fact 71 (f := .free "min") rfl), He.free_ok X G (c.fact 72 (f := .free "int") rfl), He.free_ok X G (c.fact 73 (f := .free "str") rfl), He.free_ok X G (c.fact 74 (f := .free "bool") rfl), He.free_ok X G (c.fact 75 (f := .free "sum") rfl), He.free_ok X G (c.fact 76 (f := .free "any") rfl), He.free_ok X G (c.fact 77 (f := .free "all") rfl), He.free_ok X G (c.fact 78 (f := .free "list") rfl), He.free_ok X G (c.fact 79 (f := .free "tuple") rfl), He.free_ok X G (c.fact 80 (f := .free "isinstance") rfl), He.free_ok X G (c.fact 81 (f := .free "range") rfl), He.free_ok X G (c.fact 82 (f := .free "reversed") rfl), He.free_ok X G (c.fact 83 (f := .free "enumerate") rfl), He.free_ok X G (c.fact 84 (f := .free "zip") rfl)⟩
  have g1 : GI mg "FAR_SHIFT" 4000 := He.int_ok X G (c.fact 85 rfl)
  have g2 : GI mg "MOST_INS" 12 := He.int_ok X G (c.fact 86 rfl)
  have g3 : GI mg "MOST_OUTS" 12 := He.int_ok X G (c.fact 87 rfl)
  have g4 : GS mg "FIGURES" "0123456789" := He.str_ok X G (c.fact 88 rfl)
  have g5 : GS mg "LETTERS" "abcdefghijklmnopqrstuvwxyz" := He.str_ok X G (c.fact 89 rfl)
  have d0 : Df K mg "is_whole" "is_whole" (top 11) ["thing"] := df_of c X G 0 rfl rfl (fun _ _ _ _ _ _ us hl => match us, hl with | [_], _ => rfl)
  have d1 : Df K mg "core" "core" (top 12) ["number"] := df_of c X G 1 rfl rfl (fun _ _ _ _ _ _ us hl => match us, hl with | [_], _ => rfl)
  have d2 : Df K mg "shifted" "shifted" (top 13) ["number", "shift"] := df_of c X G 2 rfl rfl (fun _ _ _ _ _ _ us hl => match us, hl with | [_, _], _ => rfl)
  have d3 : Df K mg "units" "units" (top 18) ["ins"] := df_of c X G 3 rfl rfl (fun _ _ _ _ _ _ us hl => match us, hl with | [_], _ => rfl)
  have d4 : Df K mg "part_numbers" "part_numbers" (top 19) ["told", "thing", "shift"] := df_of c X G 4 rfl rfl (fun _ _ _ _ _ _ us hl => match us, hl with | [_, _, _], _ => rfl)
  have d5 : Df K mg "deed_numbers" "deed_numbers" (top 20) ["told", "deed"] := df_of c X G 5 rfl rfl (fun _ _ _ _ _ _ us hl => match us, hl with | [_, _], _ => rfl)
  have d6 : Df K mg "number_of_out" "number_of_out" (top 21) ["told", "out"] := df_of c X G 6 rfl rfl (fun _ _ _ _ _ _ us hl => match us, hl with | [_, _], _ => rfl)
  have d7 : Df K mg "told_numbers" "told_numbers" (top 22) ["ins", "deeds"] := df_of c X G 7 rfl rfl (fun _ _ _ _ _ _ us hl => match us, hl with | [_, _], _ => rfl)
  have d8 : Df K mg "faults" "faults" (top 23) ["ins", "deeds", "outs"] := df_of c X G 8 rfl rfl (fun _ _ _ _ _ _ us hl => match us, hl with | [_, _, _], _ => rfl)
  have d9 : Df K mg "web_of" "web_of" (top 24) ["ins", "deeds", "outs"] := df_of c X G 9 rfl rfl (fun _ _ _ _ _ _ us hl => match us, hl with | [_, _, _], _ => rfl)
  have d10 : Df K mg "numbers" "numbers" (top 25) ["web"] := df_of c X G 10 rfl rfl (fun _ _ _ _ _ _ us hl => match us, hl with | [_], _ => rfl)
  have d11 : Df K mg "out_numbers" "out_numbers" (top 26) ["web"] := df_of c X G 11 rfl rfl (fun _ _ _ _ _ _ us hl => match us, hl with | [_], _ => rfl)
  have d12 : Df K mg "arrows" "arrows" (top 27) ["web"] := df_of c X G 12 rfl rfl (fun _ _ _ _ _ _ us hl => match us, hl with | [_], _ => rfl)
  have d13 : Df K mg "is_figures" "is_figures" (top 30) ["text", "most"] := df_of c X G 13 rfl rfl (fun _ _ _ _ _ _ us hl => match us, hl with | [_, _], _ => rfl)
  have d14 : Df K mg "part_text" "part_text" (top 31) ["thing", "shift"] := df_of c X G 14 rfl rfl (fun _ _ _ _ _ _ us hl => match us, hl with | [_, _], _ => rfl)
  have d15 : Df K mg "read_part" "read_part" (top 32) ["text"] := df_of c X G 15 rfl rfl (fun _ _ _ _ _ _ us hl => match us, hl with | [_], _ => rfl)
  have d16 : Df K mg "deed_of_texts" "deed_of" (top 33) ["sign", "one", "other"] := df_of c X G 16 rfl rfl (fun _ _ _ _ _ _ us hl => match us, hl with | [_, _, _], _ => rfl)
  have d17 : Df K mg "read_out" "read_out" (top 35) ["text"] := df_of c X G 17 rfl rfl (fun _ _ _ _ _ _ us hl => match us, hl with | [_], _ => rfl)
  have d18 : Df K mg "deed_line" "deed_line" (top 36) ["deed"] := df_of c X G 18 rfl rfl (fun _ _ _ _ _ _ us hl => match us, hl with | [_], _ => rfl)
  have d19 : Df K mg "out_line" "out_line" (top 37) ["out"] := df_of c X G 19 rfl rfl (fun _ _ _ _ _ _ us hl => match us, hl with | [_], _ => rfl)
  have d20 : Df K mg "shown" "shown" (top 38) ["web"] := df_of c X G 20 rfl rfl (fun _ _ _ _ _ _ us hl => match us, hl with | [_], _ => rfl)
  have d21 : Df K mg "read_ins" "read_ins" (top 39) ["line"] := df_of c X G 21 rfl rfl (fun _ _ _ _ _ _ us hl => match us, hl with | [_], _ => rfl)
  have d22 : Df K mg "read_deed" "read_deed" (top 40) ["line"] := df_of c X G 22 rfl rfl (fun _ _ _ _ _ _ us hl => match us, hl with | [_], _ => rfl)
  have d23 : Df K mg "read_last" "read_last" (top 41) ["line"] := df_of c X G 23 rfl rfl (fun _ _ _ _ _ _ us hl => match us, hl with | [_], _ => rfl)
  have d24 : Df K mg "read" "read" (top 42) ["text"] := df_of c X G 24 rfl rfl (fun _ _ _ _ _ _ us hl => match us, hl with | [_], _ => rfl)
  have d25 : Df K mg "turned_sign" "turned_sign" (top 61) ["part"] := df_of c X G 25 rfl rfl (fun _ _ _ _ _ _ us hl => match us, hl with | [_], _ => rfl)
  have d26 : Df K mg "lifted" "lifted" (top 62) ["part", "shift"] := df_of c X G 26 rfl rfl (fun _ _ _ _ _ _ us hl => match us, hl with | [_, _], _ => rfl)
  have d27 : Df K mg "signed" "signed" (top 65) ["part", "sign"] := df_of c X G 27 rfl rfl (fun _ _ _ _ _ _ us hl => match us, hl with | [_, _], _ => rfl)
  have d28 : Df K mg "run" "run" (top 80) ["web", "values"] := df_of c X G 28 rfl rfl (fun _ _ _ _ _ _ us hl => match us, hl with | [_, _], _ => rfl)
  have d29 : Df K mg "run_outs" "run_outs" (top 81) ["web", "values"] := df_of c X G 29 rfl rfl (fun _ _ _ _ _ _ us hl => match us, hl with | [_, _], _ => rfl)
  have d30 : Df K mg "used" "used" (top 89) ["web"] := df_of c X G 30 rfl rfl (fun _ _ _ _ _ _ us hl => match us, hl with | [_], _ => rfl)
  have d31 : Df K mg "pruned" "pruned" (top 90) ["web"] := df_of c X G 31 rfl rfl (fun _ _ _ _ _ _ us hl => match us, hl with | [_], _ => rfl)
  have d32 : Df K mg "form" "form" (top 91) ["row"] := df_of c X G 32 rfl rfl (fun _ _ _ _ _ _ us hl => match us, hl with | [_], _ => rfl)
  have d33 : Df K mg "bare" "bare" (top 92) ["web"] := df_of c X G 33 rfl rfl (fun _ _ _ _ _ _ us hl => match us, hl with | [_], _ => rfl)
  have d34 : Df K mg "downs" "downs" (top 94) ["web"] := df_of c X G 34 rfl rfl (fun _ _ _ _ _ _ us hl => match us, hl with | [_], _ => rfl)
  have d35 : Df K mg "turned" "turned" (top 95) ["web"] := df_of c X G 35 rfl rfl (fun _ _ _ _ _ _ us hl => match us, hl with | [_], _ => rfl)
  have d36 : Df K mg "wrapped" "wrapped" (top 97) ["number", "width"] := df_of c X G 36 rfl rfl (fun _ _ _ _ _ _ us hl => match us, hl with | [_, _], _ => rfl)
  have d37 : Df K mg "shifted_in" "shifted_in" (top 98) ["number", "shift", "width"] := df_of c X G 37 rfl rfl (fun _ _ _ _ _ _ us hl => match us, hl with | [_, _, _], _ => rfl)
  have d38 : Df K mg "run_in" "run_in" (top 99) ["web", "width", "values"] := df_of c X G 38 rfl rfl (fun _ _ _ _ _ _ us hl => match us, hl with | [_, _, _], _ => rfl)
  have d39 : Df K mg "outs_in" "outs_in" (top 100) ["web", "width", "values"] := df_of c X G 39 rfl rfl (fun _ _ _ _ _ _ us hl => match us, hl with | [_, _, _], _ => rfl)
  have d40 : Df K mg "part_sure" "part_sure" (top 101) ["bits", "shift", "width"] := df_of c X G 40 rfl rfl (fun _ _ _ _ _ _ us hl => match us, hl with | [_, _, _], _ => rfl)
  have d41 : Df K mg "sure" "sure" (top 102) ["web", "width"] := df_of c X G 41 rfl rfl (fun _ _ _ _ _ _ us hl => match us, hl with | [_, _], _ => rfl)
  have d42 : Df K mg "need" "need" (top 103) ["number"] := df_of c X G 42 rfl rfl (fun _ _ _ _ _ _ us hl => match us, hl with | [_], _ => rfl)
  have d43 : Df K mg "ends" "ends" (top 104) ["told", "ranges"] := df_of c X G 43 rfl rfl (fun _ _ _ _ _ _ us hl => match us, hl with | [_, _], _ => rfl)
  have d44 : Df K mg "width_for" "width_for" (top 105) ["web", "ranges"] := df_of c X G 44 rfl rfl (fun _ _ _ _ _ _ us hl => match us, hl with | [_, _], _ => rfl)
  have d45 : Df K mg "fits" "fits" (top 106) ["web", "width", "ranges"] := df_of c X G 45 rfl rfl (fun _ _ _ _ _ _ us hl => match us, hl with | [_, _, _], _ => rfl)
  have d46 : Df K mg "range_in" "range_in" (top 107) ["web", "width"] := df_of c X G 46 rfl rfl (fun _ _ _ _ _ _ us hl => match us, hl with | [_, _], _ => rfl)
  have d47 : Df K mg "is_name" "is_name" (top 113) ["word"] := df_of c X G 47 rfl rfl (fun _ _ _ _ _ _ us hl => match us, hl with | [_], _ => rfl)
  have d48 : Df K mg "read_number" "read_number" (top 114) ["word"] := df_of c X G 48 rfl rfl (fun _ _ _ _ _ _ us hl => match us, hl with | [_], _ => rfl)
  have d49 : Df K mg "read_word" "read_word" (top 115) ["kind", "word"] := df_of c X G 49 rfl rfl (fun _ _ _ _ _ _ us hl => match us, hl with | [_, _], _ => rfl)
  have d50 : Df K mg "kinds_of" "kinds_of" (top 116) ["words"] := df_of c X G 50 rfl rfl (fun _ _ _ _ _ _ us hl => match us, hl with | [_], _ => rfl)
  have d51 : Df K mg "list_text" "list_text" (top 117) ["values"] := df_of c X G 51 rfl rfl (fun _ _ _ _ _ _ us hl => match us, hl with | [_], _ => rfl)
  have d52 : Df K mg "_law_feed" "_law_feed" (top 122) ["_law_script", "_law_k"] := df_of c X G 52 rfl rfl (fun _ _ _ _ _ _ us hl => match us, hl with | [_, _], _ => rfl)
  have d53 : Df K mg "_law_take" "_law_take" (top 123) ["_law_feed_here", "_law_many"] := df_of c X G 53 rfl rfl (fun _ _ _ _ _ _ us hl => match us, hl with | [_, _], _ => rfl)
  have d54 : Df K mg "_law_low" "_law_low" (top 124) ["_law_row"] := df_of c X G 54 rfl rfl (fun _ _ _ _ _ _ us hl => match us, hl with | [_], _ => rfl)
  have d55 : Df K mg "_law_moved" "_law_moved" (top 125) ["_law_row", "_law_shift_here"] := df_of c X G 55 rfl rfl (fun _ _ _ _ _ _ us hl => match us, hl with | [_, _], _ => rfl)
  have d56 : Df K mg "_law_shift" "_law_shift" (top 126) ["_law_feed_here", "_law_row"] := df_of c X G 56 rfl rfl (fun _ _ _ _ _ _ us hl => match us, hl with | [_, _], _ => rfl)
  have d57 : Df K mg "_law_names" "_law_names" (top 127) ["_law_feed_here", "_law_many"] := df_of c X G 57 rfl rfl (fun _ _ _ _ _ _ us hl => match us, hl with | [_, _], _ => rfl)
  have d58 : Df K mg "_law_part" "_law_part" (top 128) ["_law_thing", "_law_shift_here"] := df_of c X G 58 rfl rfl (fun _ _ _ _ _ _ us hl => match us, hl with | [_, _], _ => rfl)
  have d59 : Df K mg "_law_lines" "_law_lines" (top 129) ["_law_feed_here", "_law_ins", "_law_up"] := df_of c X G 59 rfl rfl (fun _ _ _ _ _ _ us hl => match us, hl with | [_, _, _], _ => rfl)
  have d60 : Df K mg "_law_values" "_law_values" (top 130) ["_law_feed_here", "_law_ins"] := df_of c X G 60 rfl rfl (fun _ _ _ _ _ _ us hl => match us, hl with | [_, _], _ => rfl)
  have d61 : Df K mg "_law_sums" "_law_sums" (top 131) ["_law_rows", "_law_values_here"] := df_of c X G 61 rfl rfl (fun _ _ _ _ _ _ us hl => match us, hl with | [_, _], _ => rfl)
  have d62 : Df K mg "_law_lies" "_law_lies" (top 132) ["_law_value", "_law_width"] := df_of c X G 62 rfl rfl (fun _ _ _ _ _ _ us hl => match us, hl with | [_, _], _ => rfl)
  have d63 : Df K mg "_law_told" "_law_told" (top 133) ["_law_desk", "_law_name", "_law_lines_here"] := df_of c X G 63 rfl rfl (fun _ _ _ _ _ _ us hl => match us, hl with | [_, _, _], _ => rfl)
  have d64 : Df K mg "_law_wide" "_law_wide" (top 134) ["_law_web", "_law_width", "_law_values_here", "_law_plain", "_law_ends_here"] := df_of c X G 64 rfl rfl (fun _ _ _ _ _ _ us hl => match us, hl with | [_, _, _, _, _], _ => rfl)
  have d65 : Df K mg "_law_at_desk" "_law_at_desk" (top 135) ["_law_desk", "_law_name", "_law_web", "_law_width", "_law_values_here", "_law_plain", "_law_tail"] := df_of c X G 65 rfl rfl (fun _ _ _ _ _ _ us hl => match us, hl with | [_, _, _, _, _, _, _], _ => rfl)
  have d66 : Df K mg "_law_turned" "_law_turned" (top 136) ["_law_text", "_law_web", "_law_outs"] := df_of c X G 66 rfl rfl (fun _ _ _ _ _ _ us hl => match us, hl with | [_, _, _], _ => rfl)
  have clCB : Cls K (He.ga K "Builder") := He.cls_ok (c.fact 90 rfl)
  have mkCB := He.mkr_ok (K := K) (x := "Builder") (c.fact 91 rfl)
  have glCB := He.glo_ok X G (x := "Builder") (c.fact 92 rfl)
  have clCD : Cls K (He.ga K "Desk") := He.cls_ok (c.fact 93 rfl)
  have mkCD := He.mkr_ok (K := K) (x := "Desk") (c.fact 94 rfl)
  have glCD := He.glo_ok X G (x := "Desk") (c.fact 95 rfl)
  have na_ins : NoAttr K (He.ga K "Builder") "ins" := He.noat_ok (c.fact 99 rfl)
  have na_deeds : NoAttr K (He.ga K "Builder") "deeds" := He.noat_ok (c.fact 100 rfl)
  have na_webs : NoAttr K (He.ga K "Desk") "webs" := He.noat_ok (c.fact 101 rfl)
  have mf1 : Mf K (He.ga K "Builder") "many" "Builder.many" (meth 63 1) ["self"] := mf_of c 69 102 rfl rfl (fun _ _ _ _ _ _ us hl => match us, hl with | [_], _ => rfl)
  have mf2 : Mf K (He.ga K "Builder") "put" "Builder.put" (meth 63 2) ["self", "word", "one", "other"] := mf_of c 70 103 rfl rfl (fun _ _ _ _ _ _ us hl => match us, hl with | [_, _, _, _], _ => rfl)
  have mf3 : Mf K (He.ga K "Builder") "summed" "Builder.summed" (meth 63 3) ["self", "one", "other"] := mf_of c 71 104 rfl rfl (fun _ _ _ _ _ _ us hl => match us, hl with | [_, _, _], _ => rfl)
  have mf4 : Mf K (He.ga K "Builder") "chained" "Builder.chained" (meth 63 4) ["self", "parts"] := mf_of c 72 105 rfl rfl (fun _ _ _ _ _ _ us hl => match us, hl with | [_, _], _ => rfl)
  have mf5 : Mf K (He.ga K "Builder") "web" "Builder.web" (meth 63 6) ["self", "outs"] := mf_of c 73 106 rfl rfl (fun _ _ _ _ _ _ us hl => match us, hl with | [_, _], _ => rfl)
  have mf7 : Mf K (He.ga K "Desk") "say" "Desk.say" (meth 120 1) ["self", "row"] := mf_of c 75 107 rfl rfl (fun _ _ _ _ _ _ us hl => match us, hl with | [_, _], _ => rfl)
  have mf8 : Mf K (He.ga K "Desk") "taken" "Desk.taken" (meth 120 2) ["self", "kind", "word"] := mf_of c 76 108 rfl rfl (fun _ _ _ _ _ _ us hl => match us, hl with | [_, _, _], _ => rfl)
  have mf9 : Mf K (He.ga K "Desk") "made" "Desk.made" (meth 120 3) ["self", "word", "told"] := mf_of c 77 109 rfl rfl (fun _ _ _ _ _ _ us hl => match us, hl with | [_, _, _], _ => rfl)
  have mf10 : Mf K (He.ga K "Desk") "longer" "Desk.longer" (meth 120 4) ["self", "word", "told"] := mf_of c 78 110 rfl rfl (fun _ _ _ _ _ _ us hl => match us, hl with | [_, _, _], _ => rfl)
  have mf11 : Mf K (He.ga K "Desk") "asked" "Desk.asked" (meth 120 6) ["self", "word", "web", "told"] := mf_of c 79 111 rfl rfl (fun _ _ _ _ _ _ us hl => match us, hl with | [_, _, _, _], _ => rfl)
  obtain ⟨fdL, FL⟩ := c.def_ 67 (d := HD.dfn "law" "law" (top 137)) rfl
  have eL := hfa.symm.trans (He.glo_ok X G (c.fact 67 (f := .glo "law") rfl))
  cases eL
  have bL := FunD.bindsA (ps := ["_law_script"]) FL (fun _ _ _ _ _ _ us hl => match us, hl with | [_], _ => rfl)
  refine ⟨fdL, fun s v => bL s [v] rfl, fun base => ?_⟩
  obtain ⟨fdB, FB⟩ := c.def_ 68 (d := HD.dfm "Builder" "__init__" "Builder.__init__" (meth 63 0)) rfl
  obtain ⟨fdD, FD⟩ := c.def_ 74 (d := HD.dfm "Desk" "__init__" "Desk.__init__" (meth 120 0)) rfl
  have kcB : KCal P w K mg base (He.ga K "Builder") "Builder" 1 ["self", "ins"] (spS K (S_binit (He.ga K "Builder"))) := ⟨⟨_, fdB, mcal_binit clCB na_ins na_deeds (fun_of FB), mkCB, FunD.bindsN FB (fun _ _ _ _ _ _ us hl => match us, hl with | [_, _], _ => rfl)⟩, glCB⟩
  have kcD : KCal P w K mg base (He.ga K "Desk") "Desk" 1 ["self"] (spS K (S_dinit (He.ga K "Desk"))) := ⟨⟨_, fdD, mcal_dinit clCD na_webs (fun_of FD), mkCD, FunD.bindsN FD (fun _ _ _ _ _ _ us hl => match us, hl with | [_], _ => rfl)⟩, glCD⟩
  have k1 : Cal P w K mg base "is_whole" 1 ["thing"] (spP K R_whole) := cal_whole (P := P) (w := w) (K := K) (mg := mg) (base := base) B d0
  have k2 : Cal P w K mg base "shifted" 1 ["number", "shift"] (spP K R_shifted) := cal_shifted (P := P) (w := w) (K := K) (mg := mg) (base := base) d2
  have k3 : Cal P w K mg base "units" 1 ["ins"] (spS K S_units) := cal_units (P := P) (w := w) (K := K) (mg := mg) (base := base) B d3
  have k4 : Cal P w K mg base "part_numbers" 2 ["told", "thing", "shift"] (spP K R_part) := cal_part (P := P) (w := w) (K := K) (mg := mg) (base := base) B g1 k1 k2 d4
  have k5 : Cal P w K mg base "deed_numbers" 3 ["told", "deed"] (spP K R_deedn) := cal_deedn (P := P) (w := w) (K := K) (mg := mg) (base := base) B k4 d5
  have k6 : Cal P w K mg base "number_of_out" 3 ["told", "out"] (spP K R_nout) := cal_nout (P := P) (w := w) (K := K) (mg := mg) (base := base) B k1 k4 d6
  have k7 : Cal P w K mg base "told_numbers" 4 ["ins", "deeds"] (spP K R_told) := cal_told (P := P) (w := w) (K := K) (mg := mg) (base := base) k3 k5 d7
  have k8 : Cal P w K mg base "faults" 5 ["ins", "deeds", "outs"] (spP K R_faults) := cal_faults (P := P) (w := w) (K := K) (mg := mg) (base := base) B g2 g3 k1 k7 k6 d8
  have k9 : Cal P w K mg base "web_of" 6 ["ins", "deeds", "outs"] (spP K R_webof) := cal_webof (P := P) (w := w) (K := K) (mg := mg) (base := base) B k8 d9
  have k10 : Cal P w K mg base "numbers" 5 ["web"] (spP K R_numbers) := cal_numbers (P := P) (w := w) (K := K) (mg := mg) (base := base) k7 d10
  have k11 : Cal P w K mg base "out_numbers" 6 ["web"] (spP K R_outnumbers) := cal_outnumbers (P := P) (w := w) (K := K) (mg := mg) (base := base) k10 k6 d11
  have k12 : Cal P w K mg base "run" 2 ["web", "values"] (spP K R_run) := cal_run (P := P) (w := w) (K := K) (mg := mg) (base := base) B k2 d28
  have k13 : Cal P w K mg base "run_outs" 3 ["web", "values"] (spP K R_runouts) := cal_runouts (P := P) (w := w) (K := K) (mg := mg) (base := base) k2 k12 d29
  have k14 : Cal P w K mg base "arrows" 1 ["web"] (spP K R_arrows) := cal_arrows (P := P) (w := w) (K := K) (mg := mg) (base := base) B d12
  have k15 : Cal P w K mg base "wrapped" 1 ["number", "width"] (spP K R_wrapped) := cal_wrapped (P := P) (w := w) (K := K) (mg := mg) (base := base) d36
  have k16 : Cal P w K mg base "shifted_in" 2 ["number", "shift", "width"] (spP K R_shiftedin) := cal_shiftedin (P := P) (w := w) (K := K) (mg := mg) (base := base) k15 d37
  have k17 : Cal P w K mg base "part_sure" 1 ["bits", "shift", "width"] (spP K R_partsure) := cal_partsure (P := P) (w := w) (K := K) (mg := mg) (base := base) B d40
  have k18 : Cal P w K mg base "need" 1 ["number"] (spP K R_need) := cal_need (P := P) (w := w) (K := K) (mg := mg) (base := base) d42
  have k19 : Cal P w K mg base "ends" 1 ["told", "ranges"] (spP K R_ends) := cal_ends (P := P) (w := w) (K := K) (mg := mg) (base := base) B d43
  have k20 : Cal P w K mg base "run_in" 3 ["web", "width", "values"] (spP K R_runin) := cal_runin (P := P) (w := w) (K := K) (mg := mg) (base := base) B k15 k16 d38
  have k21 : Cal P w K mg base "outs_in" 4 ["web", "width", "values"] (spP K R_outsin) := cal_outsin (P := P) (w := w) (K := K) (mg := mg) (base := base) k15 k16 k20 d39
  have k22 : Cal P w K mg base "sure" 2 ["web", "width"] (spP K R_sure) := cal_sure (P := P) (w := w) (K := K) (mg := mg) (base := base) B k17 d41
  have k23 : Cal P w K mg base "width_for" 7 ["web", "ranges"] (spP K R_widthfor) := cal_widthfor (P := P) (w := w) (K := K) (mg := mg) (base := base) B k10 k11 k19 k18 d44
  have k24 : Cal P w K mg base "fits" 8 ["web", "width", "ranges"] (spP K R_fits) := cal_fits (P := P) (w := w) (K := K) (mg := mg) (base := base) k23 d45
  have k25 : Cal P w K mg base "range_in" 7 ["web", "width"] (spP K R_rangein) := cal_rangein (P := P) (w := w) (K := K) (mg := mg) (base := base) B k10 k11 d46
  have k26 : Cal P w K mg base "is_figures" 1 ["text", "most"] (spP K R_figs) := cal_figs (P := P) (w := w) (K := K) (mg := mg) (base := base) B g4 d13
  have k27 : Cal P w K mg base "part_text" 1 ["thing", "shift"] (spP K R_ptext) := cal_ptext (P := P) (w := w) (K := K) (mg := mg) (base := base) B d14
  have k28 : Cal P w K mg base "read_part" 2 ["text"] (spP K R_rpart) := cal_rpart (P := P) (w := w) (K := K) (mg := mg) (base := base) B k26 d15
  have k29 : Cal P w K mg base "deed_of_texts" 1 ["sign", "one", "other"] (spP K R_deedof) := cal_deedof (P := P) (w := w) (K := K) (mg := mg) (base := base) d16
  have k30 : Cal P w K mg base "read_out" 3 ["text"] (spP K R_rout) := cal_rout (P := P) (w := w) (K := K) (mg := mg) (base := base) B k28 d17
  have k31 : Cal P w K mg base "deed_line" 2 ["deed"] (spP K R_dline) := cal_dline (P := P) (w := w) (K := K) (mg := mg) (base := base) k27 d18
  have k32 : Cal P w K mg base "out_line" 2 ["out"] (spP K R_oline) := cal_oline (P := P) (w := w) (K := K) (mg := mg) (base := base) k27 d19
  have k33 : Cal P w K mg base "shown" 3 ["web"] (spP K R_shown) := cal_shown (P := P) (w := w) (K := K) (mg := mg) (base := base) B k31 k32 d20
  have k34 : Cal P w K mg base "read_ins" 2 ["line"] (spP K R_rins) := cal_rins (P := P) (w := w) (K := K) (mg := mg) (base := base) B g2 k26 d21
  have k35 : Cal P w K mg base "read_deed" 3 ["line"] (spP K R_rdeed) := cal_rdeed (P := P) (w := w) (K := K) (mg := mg) (base := base) B k28 k29 d22
  have k36 : Cal P w K mg base "read_last" 4 ["line"] (spP K R_rlast) := cal_rlast (P := P) (w := w) (K := K) (mg := mg) (base := base) B k30 d23
  have k37 : Cal P w K mg base "read" 5 ["text"] (spP K R_read) := cal_read (P := P) (w := w) (K := K) (mg := mg) (base := base) B g3 k3 k34 k35 k36 k5 k6 d24
  have k38 : Cal P w K mg base "core" 1 ["number"] (spP K R_core) := cal_core (P := P) (w := w) (K := K) (mg := mg) (base := base) B d1
  have k39 : Cal P w K mg base "turned_sign" 1 ["part"] (spP K R_turnsign) := cal_turnsign (P := P) (w := w) (K := K) (mg := mg) (base := base) d25
  have k40 : Cal P w K mg base "lifted" 1 ["part", "shift"] (spP K R_lifted) := cal_lifted (P := P) (w := w) (K := K) (mg := mg) (base := base) nf d26
  have k41 : Cal P w K mg base "signed" 2 ["part", "sign"] (spP K R_signed) := cal_signed (P := P) (w := w) (K := K) (mg := mg) (base := base) nf k39 d27
  have k42 : MCal P w K mg base (He.ga K "Builder") "many" 1 ["self"] (spS K (S_many (He.ga K "Builder"))) := mcal_many (P := P) (w := w) (K := K) (mg := mg) (base := base) (C := (He.ga K "Builder")) B clCB na_ins na_deeds mf1
  have k43 : MCal P w K mg base (He.ga K "Builder") "put" 2 ["self", "word", "one", "other"] (spS K (S_put (He.ga K "Builder"))) := mcal_put (P := P) (w := w) (K := K) (mg := mg) (base := base) (C := (He.ga K "Builder")) B clCB na_ins na_deeds k42 mf2
  have k44 : MCal P w K mg base (He.ga K "Builder") "summed" 3 ["self", "one", "other"] (spS K (S_summed (He.ga K "Builder"))) := mcal_summed (P := P) (w := w) (K := K) (mg := mg) (base := base) (C := (He.ga K "Builder")) clCB k43 mf3
  have k45 : MCal P w K mg base (He.ga K "Builder") "chained" 4 ["self", "parts"] (spS K (S_chained (He.ga K "Builder"))) := mcal_chained (P := P) (w := w) (K := K) (mg := mg) (base := base) (C := (He.ga K "Builder")) clCB nf k44 mf4
  have k46 : MCal P w K mg base (He.ga K "Builder") "web" 1 ["self", "outs"] (spS K (S_bweb (He.ga K "Builder"))) := mcal_bweb (P := P) (w := w) (K := K) (mg := mg) (base := base) (C := (He.ga K "Builder")) B clCB na_ins na_deeds mf5
  have k47 : Cal P w K mg base "used" 1 ["web"] (spP K R_used) := cal_used (P := P) (w := w) (K := K) (mg := mg) (base := base) B d30
  have k48 : Cal P w K mg base "pruned" 2 ["web"] (spP K R_pruned) := cal_pruned (P := P) (w := w) (K := K) (mg := mg) (base := base) B k47 d31
  have k49 : Cal P w K mg base "form" 2 ["row"] (spP K R_form) := cal_form (P := P) (w := w) (K := K) (mg := mg) (base := base) B k38 d32
  have k50 : Cal P w K mg base "bare" 6 ["web"] (spP K R_bare) := cal_bare (P := P) (w := w) (K := K) (mg := mg) (base := base) (C := (He.ga K "Builder")) B clCB nf kcB k44 k46 k48 k10 k49 k40 k41 d33
  have k51 : Cal P w K mg base "downs" 1 ["web"] (spP K R_downs) := cal_downs (P := P) (w := w) (K := K) (mg := mg) (base := base) B d34
  have k52 : Cal P w K mg base "turned" 5 ["web"] (spP K R_turned) := cal_turned (P := P) (w := w) (K := K) (mg := mg) (base := base) (C := (He.ga K "Builder")) B clCB kcB k45 k46 k51 k14 k40 k41 d35
  have k53 : Cal P w K mg base "is_name" 1 ["word"] (spP K R_name) := cal_name (P := P) (w := w) (K := K) (mg := mg) (base := base) B g5 d47
  have k54 : Cal P w K mg base "read_number" 2 ["word"] (spP K R_rnum) := cal_rnum (P := P) (w := w) (K := K) (mg := mg) (base := base) B k26 d48
  have k55 : Cal P w K mg base "read_word" 4 ["kind", "word"] (spP K R_rword) := cal_rword (P := P) (w := w) (K := K) (mg := mg) (base := base) B kb k28 k30 k54 d49
  have k56 : Cal P w K mg base "kinds_of" 1 ["words"] (spP K R_kinds) := cal_kinds (P := P) (w := w) (K := K) (mg := mg) (base := base) B kr d50
  have k57 : Cal P w K mg base "list_text" 1 ["values"] (spP K R_ltext) := cal_ltext (P := P) (w := w) (K := K) (mg := mg) (base := base) B nd d51
  have k58 : MCal P w K mg base (He.ga K "Desk") "taken" 5 ["self", "kind", "word"] (spS K (S_taken (He.ga K "Desk"))) := mcal_taken (P := P) (w := w) (K := K) (mg := mg) (base := base) (C := (He.ga K "Desk")) clCD na_webs k53 k55 mf8
  have k59 : MCal P w K mg base (He.ga K "Desk") "asked" 8 ["self", "word", "web", "told"] (spS K S_asked) := mcal_asked (P := P) (w := w) (K := K) (mg := mg) (base := base) (C := (He.ga K "Desk")) B clCD k33 k57 k13 k21 k25 mf11
  have k60 : MCal P w K mg base (He.ga K "Desk") "longer" 7 ["self", "word", "told"] (spS K (S_longer (He.ga K "Desk"))) := mcal_longer (P := P) (w := w) (K := K) (mg := mg) (base := base) (C := (He.ga K "Desk")) B clCD na_webs k9 k29 mf10
  have k61 : MCal P w K mg base (He.ga K "Desk") "made" 7 ["self", "word", "told"] (spS K (S_made (He.ga K "Desk"))) := mcal_made (P := P) (w := w) (K := K) (mg := mg) (base := base) (C := (He.ga K "Desk")) clCD na_webs k9 mf9
  have k62 : MCal P w K mg base (He.ga K "Desk") "say" 9 ["self", "row"] (spS K (S_say (He.ga K "Desk"))) := mcal_say (P := P) (w := w) (K := K) (mg := mg) (base := base) (C := (He.ga K "Desk")) B clCD na_webs k56 k58 k61 k60 k59 mf7
  have k63 : Cal P w K mg base "_law_feed" 1 ["_law_script", "_law_k"] (spS K S_feed) := cal_feed (P := P) (w := w) (K := K) (mg := mg) (base := base) B d52
  have k64 : Cal P w K mg base "_law_take" 5 ["_law_feed_here", "_law_many"] (spS K S_take') := cal_take (P := P) (w := w) (K := K) (mg := mg) (base := base) B d53
  have k65 : Cal P w K mg base "_law_low" 1 ["_law_row"] (spP K R_low) := cal_low (P := P) (w := w) (K := K) (mg := mg) (base := base) B d54
  have k66 : Cal P w K mg base "_law_moved" 1 ["_law_row", "_law_shift_here"] (spP K R_moved) := cal_moved (P := P) (w := w) (K := K) (mg := mg) (base := base) d55
  have k67 : Cal P w K mg base "_law_shift" 6 ["_law_feed_here", "_law_row"] (spS K S_shift) := cal_lshift (P := P) (w := w) (K := K) (mg := mg) (base := base) B k64 k65 d56
  have k68 : Cal P w K mg base "_law_part" 1 ["_law_thing", "_law_shift_here"] (spP K R_lpart) := cal_lpart (P := P) (w := w) (K := K) (mg := mg) (base := base) B d58
  have k69 : Cal P w K mg base "_law_sums" 1 ["_law_rows", "_law_values_here"] (spP K R_sums) := cal_sums (P := P) (w := w) (K := K) (mg := mg) (base := base) B d61
  have k70 : Cal P w K mg base "_law_lies" 1 ["_law_value", "_law_width"] (spP K R_lies) := cal_lies (P := P) (w := w) (K := K) (mg := mg) (base := base) d62
  have k71 : Cal P w K mg base "_law_values" 6 ["_law_feed_here", "_law_ins"] (spS K S_values) := cal_values (P := P) (w := w) (K := K) (mg := mg) (base := base) B k64 d60
  have k72 : Cal P w K mg base "_law_names" 6 ["_law_feed_here", "_law_many"] (spS K S_names) := cal_names (P := P) (w := w) (K := K) (mg := mg) (base := base) B k64 d57
  have k73 : Cal P w K mg base "_law_lines" 7 ["_law_feed_here", "_law_ins", "_law_up"] (spS K S_lines) := cal_lines (P := P) (w := w) (K := K) (mg := mg) (base := base) B k64 k67 k68 k66 d59
  have k74 : Cal P w K mg base "_law_told" 10 ["_law_desk", "_law_name", "_law_lines_here"] (spS K (S_told (He.ga K "Desk"))) := cal_ltold (P := P) (w := w) (K := K) (mg := mg) (base := base) (C := (He.ga K "Desk")) B k62 d63
  have k75 : Cal P w K mg base "_law_wide" 9 ["_law_web", "_law_width", "_law_values_here", "_law_plain", "_law_ends_here"] (spP K R_lwide) := cal_lwide (P := P) (w := w) (K := K) (mg := mg) (base := base) B k20 k22 k70 k24 k21 k23 d64
  have k76 : Cal P w K mg base "_law_turned" 7 ["_law_text", "_law_web", "_law_outs"] (spP K R_lturned) := cal_lturned (P := P) (w := w) (K := K) (mg := mg) (base := base) B k52 k33 k37 k11 k13 d66
  have k77 : Cal P w K mg base "_law_at_desk" 10 ["_law_desk", "_law_name", "_law_web", "_law_width", "_law_values_here", "_law_plain", "_law_tail"] (spS K (S_atdesk (He.ga K "Desk"))) := cal_latdesk (P := P) (w := w) (K := K) (mg := mg) (base := base) (C := (He.ga K "Desk")) B nd k62 k21 k23 k25 k24 d65
  exact fn_law B kcD k63 k64 k73 k71 k72 k69 k74 k75 k77 k76 k37 k33 k11 k12 k13 k48 k50 (fun_of FL)
end SS
open PySem PySem.W PySem.Calls PyProof.Rows
set_option maxRecDepth 100000 in
set_option maxHeartbeats 8000000 in
theorem PySem.Challenge.cw_shiftsums_k61_whole_from_text_to_answer_holds : PySem.Challenge.rw_shiftsums_k61_whole_from_text_to_answer.Holds := by
  refine SS.HD.e_law fun said => ?_
  refine HandSHeadRun.head_any (r := OpenLaw.row PySem.Challenge.rw_shiftsums_k61_whole_from_text_to_answer) (q := SS.HD.qv) (H := SS.HD.hk) (ob := SS.HD.ob) (M := 8000) (loose := SS.HD.names) (d := HandSHeadRun.topDef (OpenLaw.row PySem.Challenge.rw_shiftsums_k61_whole_from_text_to_answer).prog 137) (kwd := []) SS.HD.ob_eq
    SS.HD.e_open SS.HD.e_fence SS.HD.run SS.HD.e_def SS.HD.e_the SS.HD.e_kw (by rfl) said SS.HD.e_ok ⟨rfl, rfl, rfl, rfl, rfl, by decide +kernel⟩ ?hw ?hc
  case hw => w_witness2
  case hc =>
    refine L2.walk_ofE (l := PySem.Challenge.rw_shiftsums_k61_whole_from_text_to_answer) (n := 63) (k := 11) (x := "_law_script") (CX := L2.CX0) rfl (by decide) (by kernel_rfl) ⟨rfl, by decide, by decide⟩ ?F (fun _ _ _ _ z => z)
    intro w mg fa h Y G hmg0
    obtain ⟨K, KX, c⟩ := Y
    have hmg : mg ("law" : PySem.Str) = some (.ref fa) := by
      have e : (HandSHeadRun.topDef (OpenLaw.row PySem.Challenge.rw_shiftsums_k61_whole_from_text_to_answer).prog 137).name = ("law" : PySem.Str) := by kernel_rfl
      rw [← e]
      exact hmg0
    obtain ⟨fd, hb, hF⟩ := SS.law_ok (P := (PySem.Challenge.rw_shiftsums_k61_whole_from_text_to_answer).prog) (w := w) KX G hmg c
    exact ⟨K, fd, SS.spP K SS.R_law, KX, hb, fun H a ns hl _ hS => ⟨H, [SS.mkL (ns.map .int)], .bool true, ⟨ns, hl, rfl, rfl⟩, L2.Same.refl H, .cons (.slst hS SS.Reps.ints) .nil, fun v F' H' _ r => by cases r; rfl⟩, fun base _ _ => hF base⟩
