import PyProof.Rows.All
import Wide.All
import OpenK.AllK
import Wide.FinOn
import KE.KStateDown
import Lean
import HandS.ForMost
import HandS.Defaults
import HandS.Head0
import HandS.Head1
import HandS.Head2
import HandS.HeadEnd
import HandS.HeadHook1
import HandS.HeadHook2
import HandS.HeadHook3
import HandS.HeadHook4
import PySem.Challenge.RW_evenmeet_k74_desk_layouts_told
import HandS.Evl
import HandS.Walk
import HandS.IsInst
import HandS.Conv
import HandS.Zip
import HandS.SortInts
import HandS.TupAny
import HandS.FStr
import HandS.Style
import HandS.More
import HandS.ExcOwn
import HandS.TryOnly
import HandS.WordsExc
import HandS.Deep
import KE.GoesRaise
import KE.GoesZip
import KE.GoesMore
import HandS.Strs
set_option Elab.async false
set_option linter.all false
set_option maxRecDepth 100000
set_option maxHeartbeats 0
namespace EM
open PySem PySem.Spec PyProof.Rows L2
/-! ### the text by places -/
def top (i : Nat) : Stmt := PySem.Challenge.pw_evenmeet_k74_desk_layouts_told.main.body.getD i (.Pass ⟨0, 0, 0, 0⟩)
abbrev sIsWholeL : Stmt := top 34
abbrev sIsWholeN : Stmt := top 40
abbrev sIsPoint : Stmt := top 36
abbrev sIsBlock : Stmt := top 37
abbrev sLayoutOf : Stmt := top 38
abbrev sCheckBases : Stmt := top 50
abbrev sTurned : Stmt := top 51
abbrev sDeveloped : Stmt := top 52
abbrev sIsBelow : Stmt := top 59
abbrev sComplement : Stmt := top 60
abbrev sDual : Stmt := top 61
abbrev sKeptTo : Stmt := top 62
abbrev sRestOf : Stmt := top 63
abbrev sAtPoint : Stmt := top 64
abbrev sOffPoint : Stmt := top 65
abbrev sNumberIn : Stmt := top 125
abbrev sBlockIn : Stmt := top 126
abbrev sBlocksIn : Stmt := top 127
abbrev sShowBlock : Stmt := top 128
abbrev sShowLayout : Stmt := top 129
abbrev sReadLayout : Stmt := top 130
abbrev sIsName : Stmt := top 135
abbrev sThingIn : Stmt := top 136
abbrev sKindsOf : Stmt := top 137
abbrev sToldIn : Stmt := top 138
abbrev sLCell : Stmt := top 149
abbrev sLNumbers : Stmt := top 150
abbrev sLMask : Stmt := top 151
abbrev sLOfSize : Stmt := top 152
abbrev sLTurnedBase : Stmt := top 153
abbrev sLText : Stmt := top 154
abbrev sLNames : Stmt := top 155
abbrev sLSmall : Stmt := top 156
abbrev sLKept : Stmt := top 157
abbrev sLMade : Stmt := top 158
abbrev sLBasesText : Stmt := top 159
abbrev sLDeveloped : Stmt := top 160
abbrev sLDeed : Stmt := top 161
abbrev sLTurnedSome : Stmt := top 162
abbrev sLNoName : Stmt := top 163
abbrev sLaw : Stmt := top 164
abbrev sDInit : Stmt := inClass (top 147) 0
abbrev sDNamed : Stmt := inClass (top 147) 1
abbrev sDSay : Stmt := inClass (top 147) 2
abbrev sDMade : Stmt := inClass (top 147) 3
abbrev sDAsked : Stmt := inClass (top 147) 5
end EM
set_option Elab.async false
set_option linter.all false
set_option maxRecDepth 100000
set_option maxHeartbeats 0
namespace EM
open PySem PySem.Spec PyProof.Rows L2
/-! ### the head: facts by names -/
abbrev dd (a : Str × Option Str) (x qual : Str) (st : Stmt) : He.DefD := ⟨a, x, qual, defArgs st, defBody st, defScope st, [], []⟩
def dIsWholeL : He.DefD := dd ("is_whole_layouts", none) "is_whole" "is_whole" sIsWholeL
def dIsWholeN : He.DefD := dd ("is_whole_numbers", none) "is_whole" "is_whole" sIsWholeN
def dIsPoint : He.DefD := dd ("is_point", none) "is_point" "is_point" sIsPoint
def dIsBlock : He.DefD := dd ("is_block", none) "is_block" "is_block" sIsBlock
def dLayoutOf : He.DefD := dd ("layout_of", none) "layout_of" "layout_of" sLayoutOf
def dCheckBases : He.DefD := dd ("check_bases", none) "check_bases" "check_bases" sCheckBases
def dTurned : He.DefD := dd ("turned", none) "turned" "turned" sTurned
def dDeveloped : He.DefD := dd ("developed", none) "developed" "developed" sDeveloped
def dIsBelow : He.DefD := dd ("is_below", none) "is_below" "is_below" sIsBelow
def dComplement : He.DefD := dd ("complement", none) "complement" "complement" sComplement
def dDual : He.DefD := dd ("dual", none) "dual" "dual" sDual
def dKeptTo : He.DefD := dd ("kept_to", none) "kept_to" "kept_to" sKeptTo
def dRestOf : He.DefD := dd ("rest_of", none) "rest_of" "rest_of" sRestOf
def dAtPoint : He.DefD := dd ("at_point", none) "at_point" "at_point" sAtPoint
def dOffPoint : He.DefD := dd ("off_point", none) "off_point" "off_point" sOffPoint
def dNumberIn : He.DefD := dd ("number_in", none) "number_in" "number_in" sNumberIn
def dBlockIn : He.DefD := dd ("block_in", none) "block_in" "block_in" sBlockIn
def dBlocksIn : He.DefD := dd ("blocks_in", none) "blocks_in" "blocks_in" sBlocksIn
def dShowBlock : He.DefD := dd ("show_block", none) "show_block" "show_block" sShowBlock
def dShowLayout : He.DefD := dd ("show_layout", none) "show_layout" "show_layout" sShowLayout
def dReadLayout : He.DefD := dd ("read_layout", none) "read_layout" "read_layout" sReadLayout
def dIsName : He.DefD := dd ("is_name", none) "is_name" "is_name" sIsName
def dThingIn : He.DefD := dd ("thing_in", none) "thing_in" "thing_in" sThingIn
def dKindsOf : He.DefD := dd ("kinds_of", none) "kinds_of" "kinds_of" sKindsOf
def dToldIn : He.DefD := dd ("told_in", none) "told_in" "told_in" sToldIn
def dLCell : He.DefD := dd ("_law_cell", none) "_law_cell" "_law_cell" sLCell
def dLNumbers : He.DefD := dd ("_law_numbers", none) "_law_numbers" "_law_numbers" sLNumbers
def dLMask : He.DefD := dd ("_law_mask", none) "_law_mask" "_law_mask" sLMask
def dLOfSize : He.DefD := dd ("_law_of_size", none) "_law_of_size" "_law_of_size" sLOfSize
def dLTurnedBase : He.DefD := dd ("_law_turned_base", none) "_law_turned_base" "_law_turned_base" sLTurnedBase
def dLText : He.DefD := dd ("_law_text", none) "_law_text" "_law_text" sLText
def dLNames : He.DefD := dd ("_law_names", none) "_law_names" "_law_names" sLNames
def dLSmall : He.DefD := dd ("_law_small", none) "_law_small" "_law_small" sLSmall
def dLKept : He.DefD := dd ("_law_kept", none) "_law_kept" "_law_kept" sLKept
def dLMade : He.DefD := dd ("_law_made", none) "_law_made" "_law_made" sLMade
def dLBasesText : He.DefD := dd ("_law_bases_text", none) "_law_bases_text" "_law_bases_text" sLBasesText
def dLDeveloped : He.DefD := dd ("_law_developed", none) "_law_developed" "_law_developed" sLDeveloped
def dLDeed : He.DefD := dd ("_law_deed", none) "_law_deed" "_law_deed" sLDeed
def dLTurnedSome : He.DefD := dd ("_law_turned_some", none) "_law_turned_some" "_law_turned_some" sLTurnedSome
def dLNoName : He.DefD := dd ("_law_no_name", none) "_law_no_name" "_law_no_name" sLNoName
def dLaw : He.DefD := dd ("law", none) "law" "law" sLaw
def dDInit : He.DefD := dd ("Desk", some "__init__") "__init__" "Desk.__init__" sDInit
def dDNamed : He.DefD := dd ("Desk", some "named") "named" "Desk.named" sDNamed
def dDSay : He.DefD := dd ("Desk", some "say") "say" "Desk.say" sDSay
def dDMade : He.DefD := dd ("Desk", some "made") "made" "Desk.made" sDMade
def dDAsked : He.DefD := dd ("Desk", some "asked") "asked" "Desk.asked" sDAsked
def fn : List He.DefD := [dIsWholeL, dIsWholeN, dIsPoint, dIsBlock, dLayoutOf, dCheckBases, dTurned, dDeveloped, dIsBelow, dComplement, dDual, dKeptTo, dRestOf, dAtPoint, dOffPoint, dNumberIn, dBlockIn, dBlocksIn, dShowBlock, dShowLayout, dReadLayout, dIsName, dThingIn, dKindsOf, dToldIn, dLCell, dLNumbers, dLMask, dLOfSize, dLTurnedBase, dLText, dLNames, dLSmall, dLKept, dLMade, dLBasesText, dLDeveloped, dLDeed, dLTurnedSome, dLNoName, dLaw, dDInit, dDNamed, dDSay, dDMade, dDAsked]
def fa1 : List He.Fa := [.glo "is_whole_layouts", .glo "is_whole_numbers", .glo "is_point", .glo "is_block", .glo "layout_of", .glo "check_bases", .glo "turned", .glo "developed", .glo "is_below", .glo "complement", .glo "dual", .glo "kept_to", .glo "rest_of", .glo "at_point", .glo "off_point", .glo "number_in", .glo "block_in", .glo "blocks_in", .glo "show_block", .glo "show_layout", .glo "read_layout", .glo "is_name", .glo "thing_in", .glo "kinds_of", .glo "told_in", .glo "_law_cell", .glo "_law_numbers", .glo "_law_mask", .glo "_law_of_size", .glo "_law_turned_base", .glo "_law_text", .glo "_law_names", .glo "_law_small", .glo "_law_kept", .glo "_law_made", .glo "_law_bases_text"]
def fa2 : List He.Fa := [.glo "_law_developed", .glo "_law_deed", .glo "_law_turned_some", .glo "_law_no_name", .glo "law", .glo "Desk", .glo "NoName", .glo "MADE", .glo "FORMS", .free "len", .free "range", .free "tuple", .free "list", .free "sorted", .free "set", .free "all", .free "isinstance", .free "int", .free "str", .free "bool", .free "enumerate", .free "zip", .free "abs", .int "MOST_POINTS_layouts" 60, .int "MOST_BLOCKS" 200, .int "MOST_FIGURES_layouttexts" 4, .int "MOST_FIGURES_deskwords" 6, .str "FIGURES" "0123456789", .str "LETTERS" "abcdefghijklmnopqrstuvwxyz", .cls "Desk", .mkr "Desk", .noat "Desk" "kept", .meth "Desk" "named", .meth "Desk" "say", .meth "Desk" "made", .meth "Desk" "asked", .exc "NoName", .exm "NoName" "NoName" true]
def fa : List He.Fa := fa1 ++ fa2
def madeV : List He.Dv := [.str "put", .str "complement", .str "dual", .str "at", .str "off", .str "turned"]
def formsK : List Str := ["put", "show", "pairs", "complement", "dual", "at", "off", "turned", "alike", "rows", "plane"]
def formsV : List (Str × He.Dv) := [("put", .str "wt"), ("show", .str "w"), ("pairs", .str "w"), ("complement", .str "ww"), ("dual", .str "ww"), ("at", .str "wwn"), ("off", .str "wwn"), ("turned", .str "wnt"), ("alike", .str "ww"), ("rows", .str "w"), ("plane", .str "w")]
def ts : List He.Tab := [(fun K => He.ga K "FORMS", formsK)]
def ex (K : PySem.W.Frag) : Bool := He.tupB K "MADE" madeV && He.valsB K (He.ga K "FORMS") formsV
def needA : List Str := ["is_whole_layouts", "is_whole_numbers", "is_point", "is_block", "layout_of", "check_bases", "turned", "developed", "is_below", "complement", "dual", "kept_to", "rest_of", "at_point", "off_point", "number_in", "block_in", "blocks_in", "show_block", "show_layout", "read_layout", "is_name", "thing_in", "kinds_of"]
def needB : List Str := ["told_in", "_law_cell", "_law_numbers", "_law_mask", "_law_of_size", "_law_turned_base", "_law_text", "_law_names", "_law_small", "_law_kept", "_law_made", "_law_bases_text", "_law_developed", "_law_deed", "_law_turned_some", "_law_no_name", "law", "Desk", "NoName", "MeetError", "MADE", "FORMS"]
def names0 : List PySem.Str := ["_wall", "degrees", "count_of", "told_of", "pairs_of", "pairs_told", "WORDS", "pair_counts", "counts_by", "first_unlike", "traces", "parting_trace", "more_codes", "row_on", "row_from", "node_from", "alike", "MeetError", "NoNumber", "NoLayout", "NoText", "NoDual", "NoPart", "NoField"]
def names1 : List PySem.Str := ["NoBases", "NoWish", "NoDeskRow", "NoName", "MOST_POINTS_layouts", "MOST_BLOCKS", "is_whole", "is_whole_layouts", "is_point", "is_block", "layout_of", "is_whole_numbers", "check_whole", "primes_of", "root_of", "plain_part", "is_prime", "power_by", "is_rest", "check_bases", "turned", "developed", "differences", "sets_with_nought"]
def names2 : List PySem.Str := ["gone_on", "bases_for", "is_below", "complement", "dual", "kept_to", "rest_of", "at_point", "off_point", "trimmed", "row_times", "row_rest", "digits_of", "power_of", "row_factor", "MOST", "is_whole_fields", "is_row", "least_divisor", "size_by", "check_field", "Field", "check_parts", "shuts_plain"]
def names3 : List PySem.Str := ["root_by", "solved", "form_told", "triples_of", "tables_of", "meets", "plane_of", "flat_of", "unlike_pair", "shared_points", "unlike_blocks", "no_three", "has_four", "plane_told", "MOST_POINTS_wishes", "MOST_TIMES", "MOST_BEGUN", "is_between", "is_start", "wish_of", "shares", "MOST_CHOICES", "MOST_TURNED", "FIELDS"]
def names4 : List PySem.Str := ["sets_of", "ways_of", "number_paper", "over_paper", "named_layouts", "named_design", "turned_design", "Search", "searched", "answer", "FIGURES", "MOST_FIGURES_layouttexts", "number_in", "block_in", "blocks_in", "show_block", "show_layout", "read_layout", "LETTERS", "MOST_FIGURES_deskwords", "FORMS", "is_name", "thing_in", "kinds_of"]
def names5 : List PySem.Str := ["told_in", "level_of", "levels_of", "many_rows", "MADE", "pairs_text", "answer_text", "Desk", "_law_cell", "_law_numbers", "_law_mask", "_law_of_size", "_law_turned_base", "_law_text", "_law_names", "_law_small", "_law_kept", "_law_made", "_law_bases_text", "_law_developed", "_law_deed", "_law_turned_some", "_law_no_name"]
def names : List PySem.Str := names0 ++ names1 ++ names2 ++ names3 ++ names4 ++ names5
/-! ### the head's Hook: the objects of these names alone -/
def need : List Str := needA ++ needB
def refsN (g : Addr → Option Obj) (a : Addr) : List Addr := match g a with
  | some o => (match o.data with
    | .func fd => He.refV fd.code
    | .cls cd => cd.ns :: (match g cd.ns with
      | some n => (match n.data with
        | .dict es _ => es.toList.flatMap fun e => (match e.val with
          | .ref m => m :: (match g m with
            | some f => (match f.data with
              | .func fd => He.refV fd.code
              | _ => [])
            | none => [])
          | _ => [])
        | _ => [])
      | none => [])
    | _ => [])
  | none => []
def globN (g : Addr → Option Obj) (l : List Str) : List Addr := match g mainGlobals with
  | some o => (match o.data with
    | .dict es _ => l.flatMap fun x => (match es.toList.find? (·.key.isStr x) with
      | some e => He.refV e.val
      | none => [])
    | _ => [])
  | none => []
def asN (g : Addr → Option Obj) (l : List Addr) : List Addr := mainGlobals :: (l ++ l.flatMap (refsN g))
def obsN (g : Addr → Option Obj) (K : PySem.W.Frag) : He.AlT × Bool := (He.obsT fa fn ts K, ex K)
def obN (g : Addr → Option Obj) : He.AlT × Bool := obsN g (He.frG g (asN g (globN g need)))
def hk : PySem.W.Hook where
  α := He.AlT × Bool
  obs := fun s => obN s.heap.get?
  val := fun w => (He.valT fn ts w, true)
  says := fun w h => ∃ K : PySem.W.Frag, K.In h ∧ He.SaysT fa fn ts w K ∧ ex K = true
  of := fun _ _ e => ⟨_, He.frG_in, congrArg (fun z : He.AlT × Bool => z.1) e, congrArg (fun z : He.AlT × Bool => z.2) e⟩
  keeps := fun _ _ _ ⟨K, hK, c⟩ k => ⟨K, PySem.W.Frag.In.keeps hK k, c⟩
abbrev R : PySem.W.OpenRow := PySem.W.OpenLaw.row PySem.Challenge.rw_evenmeet_k74_desk_layouts_told
def ob (s : PySem.W.SharedT) : He.AlT × Bool := obN (HandSHeadRun.getT s)
theorem ob_eq (s : PySem.W.SharedT) : ob s = hk.obs s.abs := by
  have e : HandSHeadRun.getT s = s.abs.heap.get? := funext (HandSHeadRun.getT_eq s)
  show obN (HandSHeadRun.getT s) = obN s.abs.heap.get?
  rw [e]
def RunAt (w : World) : Prop := HandSHeadRun.RunEq R (PySem.W.view R.prog [164]) hk ob 9000 names w
theorem run_f (w : World) : RunAt (w.withFollow "special-get-raises" false) := by
  intro os
  kernel_rfl
theorem run_t (w : World) : RunAt (w.withFollow "special-get-raises" true) := by
  intro os
  kernel_rfl
theorem run (w : World) : RunAt w := PySem.W.byRow2 "special-get-raises" run_f run_t w
end EM
set_option Elab.async false
set_option linter.all false
set_option maxRecDepth 100000
set_option maxHeartbeats 2000000
namespace EM
open PySem PySem.Spec PyProof.Rows L2
/-! ### built-in names -/
theorem bt_len : bootBuiltins "len" = some (.builtin "len") := by decide +kernel
theorem bt_tuple : bootBuiltins "tuple" = some (.type "tuple") := by decide +kernel
theorem bt_list : bootBuiltins "list" = some (.type "list") := by decide +kernel
theorem bt_sorted : bootBuiltins "sorted" = some (.builtin "sorted") := by decide +kernel
theorem bt_all : bootBuiltins "all" = some (.builtin "all") := by decide +kernel
theorem bt_isinstance : bootBuiltins "isinstance" = some (.builtin "isinstance") := by decide +kernel
theorem bt_int : bootBuiltins "int" = some (.type "int") := by decide +kernel
theorem bt_str : bootBuiltins "str" = some (.type "str") := by decide +kernel
theorem bt_bool : bootBuiltins "bool" = some (.type "bool") := by decide +kernel
theorem bt_abs : bootBuiltins "abs" = some (.builtin "abs") := by decide +kernel
/-- the module's names that the walked defs read -/
structure Tx (K : PySem.W.Frag) (w : World) (mg : Str → Option Value) : Prop where
  len : mg "len" = none
  range : mg "range" = none
  tuple : mg "tuple" = none
  list : mg "list" = none
  sorted : mg "sorted" = none
  set : mg "set" = none
  all : mg "all" = none
  isinstance : mg "isinstance" = none
  int : mg "int" = none
  str : mg "str" = none
  bool : mg "bool" = none
  enumerate : mg "enumerate" = none
  zip : mg "zip" = none
  abs : mg "abs" = none
  MOST_POINTS_layouts : ∃ t, mg "MOST_POINTS_layouts" = some (.int 60 t)
  MOST_BLOCKS : ∃ t, mg "MOST_BLOCKS" = some (.int 200 t)
  MOST_FIGURES_layouttexts : ∃ t, mg "MOST_FIGURES_layouttexts" = some (.int 4 t)
  MOST_FIGURES_deskwords : ∃ t, mg "MOST_FIGURES_deskwords" = some (.int 6 t)
  FIGURES : ∃ t, mg "FIGURES" = some (.str "0123456789" t)
  LETTERS : ∃ t, mg "LETTERS" = some (.str "abcdefghijklmnopqrstuvwxyz" t)
section
variable {X : Cx}
theorem pe_gint {x : Str} {i : Int} {pos : Pos} (h : ∃ t, X.mg x = some (.int i t)) (hg : Gl X x := by rfl) (hd : (x == ("__debug__" : Str)) = false := by decide) : PE X (.Name x pos) (tC (.int i)) := by
  obtain ⟨t, e⟩ := h
  exact pe_glob hg e ⟨t, rfl⟩ hd
theorem pe_gstr {x z : Str} {pos : Pos} (h : ∃ t, X.mg x = some (.str z t)) (hg : Gl X x := by rfl) (hd : (x == ("__debug__" : Str)) = false := by decide) : PE X (.Name x pos) (tC (.str z)) := by
  obtain ⟨t, e⟩ := h
  exact pe_glob hg e ⟨t, rfl⟩ hd
theorem pe_gref {x : Str} {a : Addr} {pos : Pos} (h : X.mg x = some (.ref a)) (hg : Gl X x := by rfl) (hd : (x == ("__debug__" : Str)) = false := by decide) : PE X (.Name x pos) (tC (.ref a)) :=
  pe_glob hg h rfl hd
end
/-! ### defs -/
/-- the def of statement st stands by the module's name g -/
structure At (K : PySem.W.Frag) (mg : Str → Option Value) (g x : Str) (st : Stmt) : Prop where
  ex : ∃ f fd, FunD K x x (defArgs st) (defBody st) (defScope st) [] [] f fd ∧ mg g = some (.ref f)
/-- what a caller needs of a def -/
structure Cal (P : Program) (w : World) (K : PySem.W.Frag) (mg : Str → Option Value) (base : Heap) (CX : CXT) (k : Nat) (g : Str) (ps : List Str) (sp : Sp) : Prop where
  ex : ∃ f fd, FnOk P w K mg base CX k f fd ps sp ∧ mg g = some (.ref f) ∧ PySem.W.keepIn K (.ref f) = true ∧ Binds K fd ps []
theorem pe_cc {X : Cx} {k : Nat} {ps : List Str} {sp : Sp} {x : Str} {p pos : Pos} {e : Expr} {es : List Expr} {t : TA} (G : Cal X.prog X.w X.K X.mg X.base CX0 k x ps sp) (hr : Room k X.A) (ha : PA X (e :: es) t) (hg : Gl X x := by rfl) (hdb : (x == ("__debug__" : Str)) = false := by decide)
    (he : starEach (e :: es) X.env = (false, eval e X.env) :: starEach es X.env := by rfl) (hpl : (backTo pos (starEach es X.env)).any (·.1) = false := by rfl) :
    PE X (.Call (.Name x p) (e :: es) [] pos) (tCall sp [] E0 t) := by
  obtain ⟨f, fd, F, hm, hk, hb⟩ := G.ex
  exact pe_call F hr hg hm hk hb .nil pass0 ha hdb he hpl
section
variable {P : Program} {w : World} {K : PySem.W.Frag} {mg : Str → Option Value} {base : Heap}
/-- a def that lets nothing out -/
theorem At.cal {g x : Str} {st : Stmt} {N ps : List Str} {k : Nat} {sp : Sp} (F : At K mg g x st) (S : FnScope N ps (defScope st))
    (hb : ∀ (kV doc pm : Value) (an : Option Addr) (cdv ct : Value) (us : List Value), us.length = ps.length → bindArgs (PySem.W.fnOf x x (defArgs st) (defBody st) (defScope st) .none kV doc pm an cdv ct) ⟨us, []⟩ = pure (ps.zip us))
    (len : ∀ vs H Q E, sp vs H Q E → vs.length = ps.length)
    (hbody : ∀ (cdv : Value) (f : Addr) (A : Around) (outer : List Env) (s : Shared) (H : Hp) (vs : List V) (Q : VK) (E : XK), Room k (A.deeper (envOfC x (defScope st) s.heap.objs.size f cdv)) → sp vs H Q E →
      ∃ t, PSs (cxOf CX0 P w K mg base N x (defScope st) f cdv A outer s H E).nox (defBody st) t ∧ t { nx := fun _ H' => Q .non H', rt := Q } (start N vs) H) : Cal P w K mg base CX0 (k + 1) g ps sp := by
  obtain ⟨f, fd, F, hm⟩ := F.ex
  refine ⟨f, fd, F.ok S len fun cdv A outer s H vs Q E hr h => ?_, hm, F.kp, F.bindsN hb⟩
  obtain ⟨t, h1, h2⟩ := hbody cdv f A outer s H vs Q E hr h
  exact ⟨t, h1.nox, h2⟩
end
theorem Cal.mono {P : Program} {w : World} {K : PySem.W.Frag} {mg : Str → Option Value} {base : Heap} {CX : CXT} {j k : Nat} {g : Str} {ps : List Str} {sp : Sp} (h : Cal P w K mg base CX j g ps sp) (hk : j ≤ k) : Cal P w K mg base CX k g ps sp := by
  obtain ⟨f, fd, F, r⟩ := h.ex
  exact ⟨f, fd, F.mono hk, r⟩
end EM
set_option Elab.async false
set_option linter.all false
set_option maxRecDepth 100000
set_option maxHeartbeats 2000000
/-! The plain mathematics: rising lists, sorted lists, layouts made of layouts, their texts. No program in sight. -/
namespace EM
open PySem L2
/-! ### rising lists -/
def Asc (b : List Nat) : Prop := b.Pairwise (· < ·)
def Bel (n : Nat) (b : List Nat) : Prop := ∀ p ∈ b, p < n
/-- a block of n points -/
structure Blk (n : Nat) (b : List Nat) : Prop where
  asc : Asc b
  bel : Bel n b
theorem Asc.nodup {b : List Nat} (h : Asc b) : b.Nodup := h.imp fun q => Nat.ne_of_lt q
theorem nodup_len : ∀ (l D : List Nat), l.Nodup → (∀ x ∈ l, x ∈ D) → l.length ≤ D.length
  | [], _, _, _ => Nat.zero_le _
  | x :: l, D, h, hs => by
    obtain ⟨h1, h2⟩ := List.nodup_cons.mp h
    have hx := hs x List.mem_cons_self
    have ih := nodup_len l (D.erase x) h2 fun y hy => (List.mem_erase_of_ne (fun e : y = x => h1 (by rw [← e]; exact hy))).mpr (hs y (List.mem_cons_of_mem _ hy))
    rw [List.length_erase_of_mem hx] at ih
    have pos := List.length_pos_of_mem hx
    rw [List.length_cons]
    omega
theorem len_of_below {n : Nat} {b : List Nat} (hn : b.Nodup) (hb : Bel n b) : b.length ≤ n := by
  have e := nodup_len b (List.range n) hn fun x hx => List.mem_range.mpr (hb x hx)
  rw [List.length_range] at e
  exact e
theorem Blk.len {n : Nat} {b : List Nat} (h : Blk n b) : b.length ≤ n := len_of_below h.asc.nodup h.bel
theorem asc_range (n : Nat) : Asc (List.range n) := List.pairwise_lt_range
theorem Asc.filter {b : List Nat} (h : Asc b) (p : Nat → Bool) : Asc (b.filter p) := List.Pairwise.sublist List.filter_sublist h
theorem blk_range (n : Nat) (p : Nat → Bool) : Blk n ((List.range n).filter p) := ⟨(asc_range n).filter p, fun x hx => List.mem_range.mp (List.mem_filter.mp hx).1⟩
/-! ### sorted -/
def sortN (l : List Nat) : List Nat := l.mergeSort fun a b => decide (a ≤ b)
theorem sortN_perm (l : List Nat) : (sortN l).Perm l := List.mergeSort_perm l _
theorem sortN_le (l : List Nat) : (sortN l).Pairwise (· ≤ ·) := by
  have h := List.pairwise_mergeSort (le := fun a b : Nat => decide (a ≤ b)) (fun a b c h1 h2 => by simp at *; omega) (fun a b => by simp; omega) l
  exact h.imp fun q => of_decide_eq_true q
theorem same_sorted : ∀ {a b : List Nat}, a.Perm b → a.Pairwise (· ≤ ·) → b.Pairwise (· ≤ ·) → a = b
  | [], b, hp, _, _ => (List.nil_perm.mp hp).symm
  | x :: a, [], hp, _, _ => by simpa using hp.length_eq
  | x :: a, y :: b, hp, ha, hb => by
    have hx : x ∈ y :: b := hp.subset List.mem_cons_self
    have hy : y ∈ x :: a := hp.symm.subset List.mem_cons_self
    have h1 : y ≤ x := by
      rcases List.mem_cons.mp hx with e | e
      · omega
      · exact (List.pairwise_cons.mp hb).1 x e
    have h2 : x ≤ y := by
      rcases List.mem_cons.mp hy with e | e
      · omega
      · exact (List.pairwise_cons.mp ha).1 y e
    have e : x = y := by omega
    subst e
    rw [same_sorted hp.cons_inv (List.pairwise_cons.mp ha).2 (List.pairwise_cons.mp hb).2]
theorem sortN_eq {l m : List Nat} (hp : m.Perm l) (hs : m.Pairwise (· ≤ ·)) : m = sortN l := same_sorted (hp.trans (sortN_perm l).symm) hs (sortN_le l)
theorem sortN_asc {b : List Nat} (h : Asc b) : sortN b = b := (sortN_eq (List.Perm.refl b) (h.imp fun q => Nat.le_of_lt q)).symm
theorem asc_of {l : List Nat} (hs : l.Pairwise (· ≤ ·)) (hn : l.Nodup) : Asc l := by
  have h := hs.and hn
  exact h.imp fun q => by
    have h1 := q.1
    have h2 := q.2
    omega
theorem sortN_blk {n : Nat} {l : List Nat} (hn : l.Nodup) (hb : Bel n l) : Blk n (sortN l) :=
  ⟨asc_of (sortN_le l) ((sortN_perm l).nodup_iff.mpr hn), fun p hp => hb p ((sortN_perm l).subset hp)⟩
theorem sortN_len (l : List Nat) : (sortN l).length = l.length := (sortN_perm l).length_eq
/-- sorted as ints -/
theorem sort_ints {l : List Nat} {m : List Int} (hp : m.Perm (l.map fun (p : Nat) => (p : Int))) (hs : m.Pairwise (· ≤ ·)) : m = (sortN l).map fun (p : Nat) => (p : Int) := by
  have h0 : ∀ x ∈ m, ∃ p : Nat, x = (p : Int) := fun x hx => by
    obtain ⟨p, _, e⟩ := List.mem_map.mp (hp.subset hx)
    exact ⟨p, e.symm⟩
  have e : m = (m.map Int.toNat).map fun (p : Nat) => (p : Int) := by
    rw [List.map_map]
    conv => lhs; rw [← List.map_id m]
    refine List.map_congr_left fun x hx => ?_
    obtain ⟨p, rfl⟩ := h0 x hx
    simp
  have hp2 : (m.map Int.toNat).Perm l := by
    have q := hp.map Int.toNat
    rw [List.map_map] at q
    have q2 : l.map (Int.toNat ∘ fun (p : Nat) => (p : Int)) = l := by
      conv => rhs; rw [← List.map_id l]
      exact List.map_congr_left fun x _ => by simp
    rw [q2] at q
    exact q
  have hs2 : (m.map Int.toNat).Pairwise (· ≤ ·) := List.pairwise_map.mpr (hs.imp fun q => by omega)
  rw [e, sortN_eq hp2 hs2]
/-! ### turned -/
theorem turn_nodup {n t : Nat} {b : List Nat} (hn : b.Nodup) (hb : Bel n b) : (b.map fun p => (p + t) % n).Nodup := by
  refine List.pairwise_map.mpr ?_
  have h := List.Pairwise.and_mem.mp hn
  refine h.imp fun {x y} q => ?_
  obtain ⟨hx, hy, hne⟩ := q
  have h1 := hb x hx
  have h2 := hb y hy
  intro e
  apply hne
  have h3 : (x + t) % n = (y + t) % n := e
  have e1 : x % n = x := Nat.mod_eq_of_lt h1
  have e2 : y % n = y := Nat.mod_eq_of_lt h2
  have h4 : (x : Int) % n = (y : Int) % n := by
    have h5 : ((x + t : Nat) : Int) % n = ((y + t : Nat) : Int) % n := by exact_mod_cast h3
    have h6 := Int.emod_emod_of_dvd (((x + t : Nat) : Int)) (Int.dvd_refl (n : Int))
    have h7 : (((x + t : Nat) : Int) - t) % n = (((y + t : Nat) : Int) - t) % n := by
      rw [Int.sub_emod, h5, ← Int.sub_emod]
    have h8 : (((x + t : Nat) : Int) - t) = x := by omega
    have h9 : (((y + t : Nat) : Int) - t) = y := by omega
    rw [h8, h9] at h7
    exact h7
  have h10 : ((x % n : Nat) : Int) = ((y % n : Nat) : Int) := by
    rw [Int.natCast_emod, Int.natCast_emod]
    exact h4
  omega
def turnF (n t : Nat) (b : List Nat) : List Nat := sortN (b.map fun p => (p + t) % n)
theorem turn_blk {n t : Nat} {b : List Nat} (h0 : 0 < n) (hn : b.Nodup) (hb : Bel n b) : Blk n (turnF n t b) := sortN_blk (turn_nodup hn hb) fun p hp => by
  obtain ⟨x, _, rfl⟩ := List.mem_map.mp hp
  exact Nat.mod_lt _ h0
/-! ### layouts -/
abbrev Lay : Type := Nat × List (List Nat)
/-- one that the desk holds -/
structure LOk (l : Lay) : Prop where
  pos : 1 ≤ l.1
  most : l.1 ≤ 60
  many : l.2.length ≤ 60
  blk : ∀ b ∈ l.2, Blk l.1 b
def compF (l : Lay) : Lay := (l.1, l.2.map fun b => (List.range l.1).filter fun p => !b.contains p)
def dualF (l : Lay) : Lay := (l.2.length, (List.range l.1).map fun p => (List.range l.2.length).filter fun k => (l.2.getD k []).contains p)
def keptF (ps : List Nat) (bs : List (List Nat)) : Lay := (ps.length, bs.map fun b => (b.filter fun p => ps.contains p).map fun p => ps.idxOf p)
def restF (n q : Nat) : List Nat := (List.range n).filter fun o => o != q
def atF (l : Lay) (q : Nat) : Lay := keptF (restF l.1 q) (l.2.filter fun b => b.contains q)
def offF (l : Lay) (q : Nat) : Lay := keptF (restF l.1 q) (l.2.filter fun b => !b.contains q)
def devF (n : Nat) (bs : List (List Nat)) : Lay := (n, bs.flatMap fun b => (List.range n).map fun t => turnF n t b)
theorem comp_ok {l : Lay} (h : LOk l) : LOk (compF l) := ⟨h.pos, h.most, by
  show (l.2.map _).length ≤ 60
  rw [List.length_map]
  exact h.many, fun b hb => by
    obtain ⟨c, _, rfl⟩ := List.mem_map.mp hb
    exact blk_range _ _⟩
theorem dual_ok {l : Lay} (h : LOk l) (h1 : 0 < l.2.length) : LOk (dualF l) := ⟨h1, h.many, by
  show ((List.range l.1).map _).length ≤ 60
  rw [List.length_map, List.length_range]
  exact h.most, fun b hb => by
    obtain ⟨c, _, rfl⟩ := List.mem_map.mp hb
    exact blk_range _ _⟩
theorem idx_ne {p y : Nat} {ps : List Nat} (h : ¬ p = y) : (p :: ps).idxOf y = ps.idxOf y + 1 := by
  rw [List.idxOf_cons]
  have e : (p == y) = false := by simpa using h
  rw [e, cond_false]
theorem idx_lt : ∀ {ps : List Nat} {x y : Nat}, Asc ps → x ∈ ps → y ∈ ps → x < y → ps.idxOf x < ps.idxOf y
  | [], _, _, _, h, _, _ => by cases h
  | p :: ps, x, y, ha, hx, hy, hl => by
    obtain ⟨h1, h2⟩ := List.pairwise_cons.mp ha
    by_cases e : p = x
    · subst e
      rw [List.idxOf_cons_self]
      have ne : ¬ p = y := by omega
      rw [idx_ne ne]
      omega
    · have hx' : x ∈ ps := by
        rcases List.mem_cons.mp hx with q | q
        · exact absurd q.symm e
        · exact q
      have hpx := h1 x hx'
      have ne : ¬ p = y := by omega
      have hy' : y ∈ ps := by
        rcases List.mem_cons.mp hy with q | q
        · exact absurd q.symm ne
        · exact q
      rw [idx_ne e, idx_ne ne]
      have := idx_lt h2 hx' hy' hl
      omega
theorem kept_blk {ps b : List Nat} (hp : Asc ps) (hb : Asc b) : Blk ps.length ((b.filter fun p => ps.contains p).map fun p => ps.idxOf p) := by
  refine ⟨?_, fun x hx => ?_⟩
  · refine List.pairwise_map.mpr ?_
    have h := List.Pairwise.and_mem.mp (hb.filter fun p => ps.contains p)
    refine h.imp fun {x y} q => ?_
    obtain ⟨hx, hy, hl⟩ := q
    have h1 := (List.mem_filter.mp hx).2
    have h2 := (List.mem_filter.mp hy).2
    exact idx_lt hp (by simpa using h1) (by simpa using h2) hl
  · obtain ⟨p, h, rfl⟩ := List.mem_map.mp hx
    have h1 := (List.mem_filter.mp h).2
    exact List.idxOf_lt_length_iff.mpr (by simpa using h1)
theorem rest_asc (n q : Nat) : Asc (restF n q) := (asc_range n).filter _
theorem rest_len {n q : Nat} (h : q < n) : (restF n q).length + 1 = n := by
  have h1 : (restF n q).Perm ((List.range n).erase q) := by
    unfold restF
    rw [List.Nodup.erase_eq_filter List.nodup_range]
  have h2 := h1.length_eq
  rw [List.length_erase_of_mem (List.mem_range.mpr h), List.length_range] at h2
  omega
theorem keptR_ok {l : Lay} {q : Nat} {f : List Nat → Bool} (h : LOk l) (hq : q < l.1) (h2 : 2 ≤ l.1) : LOk (keptF (restF l.1 q) (l.2.filter f)) := by
  have hl := rest_len hq
  refine ⟨by show 1 ≤ (restF l.1 q).length; omega, by show (restF l.1 q).length ≤ 60; have := h.most; omega, ?_, fun b hb => ?_⟩
  · show ((l.2.filter f).map _).length ≤ 60
    rw [List.length_map]
    exact Nat.le_trans (List.length_filter_le _ _) h.many
  · obtain ⟨c, hc, rfl⟩ := List.mem_map.mp hb
    exact kept_blk (rest_asc _ _) (h.blk c (List.mem_filter.mp hc).1).asc
/-- a base: unlike numbers below n -/
structure Base (n : Nat) (b : List Nat) : Prop where
  nd : b.Nodup
  bel : Bel n b
theorem dev_ok {n : Nat} {bs : List (List Nat)} (h0 : 1 ≤ n) (h1 : n ≤ 20) (h2 : bs.length ≤ 3) (hb : ∀ b ∈ bs, Base n b) : LOk (devF n bs) := by
  refine ⟨h0, by show n ≤ 60; omega, ?_, fun b hb' => ?_⟩
  · show (bs.flatMap _).length ≤ 60
    have e : ∀ cs : List (List Nat), (cs.flatMap fun b => (List.range n).map fun t => turnF n t b).length = cs.length * n := by
      intro cs
      induction cs with
      | nil => simp
      | cons c cs ih =>
        rw [List.flatMap_cons, List.length_append, ih, List.length_map, List.length_range, List.length_cons, Nat.succ_mul]
        omega
    rw [e]
    calc bs.length * n ≤ 3 * 20 := Nat.mul_le_mul h2 h1
      _ = 60 := rfl
  · obtain ⟨c, hc, hb2⟩ := List.mem_flatMap.mp hb'
    obtain ⟨t, _, rfl⟩ := List.mem_map.mp hb2
    exact turn_blk (by show 0 < n; omega) (hb c hc).nd (hb c hc).bel
end EM
set_option Elab.async false
set_option linter.all false
set_option maxRecDepth 100000
set_option maxHeartbeats 2000000
namespace EM
open PySem PySem.Spec PyProof.Rows L2 Evl
/-! ### heaps: what stays -/
/-- tuples stand -/
def TK (H H' : Hp) : Prop := ∀ a xs, Rd H a (.tup xs) → Rd H' a (.tup xs)
theorem TK.refl (H : Hp) : TK H H := fun _ _ h => h
theorem TK.trans {H H1 H2 : Hp} (a : TK H H1) (b : TK H1 H2) : TK H H2 := fun x xs h => b x xs (a x xs h)
theorem tk_of {H H' : Hp} (e : Ex H H') : TK H H' := fun a xs h => ex_rd e h
/-- an object that is no tuple is written -/
theorem tk_upd {H : Hp} {a : Addr} {o u : HO} (h : H a = some o) (n : ∀ xs, o ≠ .tup xs) (m : ∀ ob xs, o ≠ .frz ob (.tup xs)) : TK H (upd H a u) := fun b xs r => by
  have nb : b ≠ a := fun e => by
    subst e
    rcases r with r | ⟨ob, r⟩
    · rw [h] at r
      exact n xs (Option.some.inj r)
    · rw [h] at r
      exact m ob xs (Option.some.inj r)
  rcases r with r | ⟨ob, r⟩
  · exact .inl (by rw [upd_ne nb]; exact r)
  · exact .inr ⟨ob, by rw [upd_ne nb]; exact r⟩
theorem tk_lst {H : Hp} {a : Addr} {xs : List V} {u : HO} (h : H a = some (.lst xs)) : TK H (upd H a u) := tk_upd h (fun _ z => by cases z) (fun _ _ z => by cases z)
theorem tk_dK {H : Hp} {a : Addr} {kvs : List (Key × V)} {u : HO} (h : H a = some (.dK kvs)) : TK H (upd H a u) := tk_upd h (fun _ z => by cases z) (fun _ _ z => by cases z)
/-- all but what stands at D stands; so do the tuples -/
structure KD (D : Addr) (H H' : Hp) : Prop where
  but : ∀ a o, a ≠ D → H a = some o → H' a = some o
  tk : TK H H'
theorem KD.of {D : Addr} {H H' : Hp} (e : Ex H H') : KD D H H' := ⟨fun a o _ h => e a o h, tk_of e⟩
theorem KD.trans {D : Addr} {H H1 H2 : Hp} (a : KD D H H1) (b : KD D H1 H2) : KD D H H2 := ⟨fun c o n h => b.but c o n (a.but c o n h), a.tk.trans b.tk⟩
theorem KD.lst {D : Addr} {H : Hp} {xs : List V} {u : HO} (h : H D = some (.lst xs)) : KD D H (upd H D u) := ⟨fun a o n q => by rw [upd_ne n]; exact q, tk_lst h⟩
theorem KD.dK {D : Addr} {H : Hp} {kvs : List (Key × V)} {u : HO} (h : H D = some (.dK kvs)) : KD D H (upd H D u) := ⟨fun a o n q => by rw [upd_ne n]; exact q, tk_dK h⟩
section
variable {K : PySem.W.Frag} {H H' : Hp}
theorem sqt_tk {a : Addr} {xs : List V} (e : TK H H') (h : SqT K H a xs) : SqT K H' a xs := by
  rcases h with h | h
  · exact .inl (e _ _ h)
  · exact .inr h
/-! ### data -/
/-- numbers as values -/
def nv (l : List Nat) : List V := l.map fun (p : Nat) => V.int (p : Int)
theorem nv_len (l : List Nat) : (nv l).length = l.length := List.length_map ..
theorem nv_get {l : List Nat} {i : Nat} {x : V} (h : (nv l)[i]? = some x) : ∃ p, l[i]? = some p ∧ x = .int (p : Int) := by
  unfold nv at h
  rw [List.getElem?_map] at h
  cases e : l[i]? with
  | none =>
    rw [e] at h
    cases h
  | some p =>
    rw [e] at h
    exact ⟨p, rfl, (Option.some.inj h).symm⟩
theorem nv_at {l : List Nat} {i p : Nat} (h : l[i]? = some p) : (nv l)[i]? = some (.int (p : Int)) := by
  unfold nv
  rw [List.getElem?_map, h]
  rfl
theorem nv_append (l m : List Nat) : nv (l ++ m) = nv l ++ nv m := List.map_append ..
theorem nv_flat (l : List Nat) : (nv l).all flatV = true := by
  unfold nv
  rw [List.all_map]
  exact List.all_eq_true.mpr fun _ _ => rfl
theorem nv_getD {b : List Nat} {i : Nat} (h : i < (nv b).length) : ∃ p, b[i]? = some p ∧ p ∈ b ∧ b.getD i 0 = p ∧ (nv b).getD i .non = .int (p : Int) := by
  rw [nv_len] at h
  refine ⟨b[i], List.getElem?_eq_getElem h, List.getElem_mem h, by simp [List.getD_eq_getElem?_getD, h], ?_⟩
  have e := nv_at (l := b) (i := i) (List.getElem?_eq_getElem h)
  simp [List.getD_eq_getElem?_getD, e]
theorem nv_ints (b : List Nat) : nv b = (b.map fun (p : Nat) => (p : Int)).map V.int := by
  unfold nv
  rw [List.map_map]
  rfl
/-- a list of numbers -/
def LI (K : PySem.W.Frag) (H : Hp) (b : List Nat) (v : V) : Prop := ∃ a, v = .ref a ∧ SqL K H a (nv b)
/-- a tuple of numbers -/
def TI (K : PySem.W.Frag) (H : Hp) (b : List Nat) (v : V) : Prop := ∃ a, v = .ref a ∧ SqT K H a (nv b)
/-- a tuple, a list of tuples of numbers -/
def TB (K : PySem.W.Frag) (H : Hp) (bs : List (List Nat)) (v : V) : Prop := ∃ a vs, v = .ref a ∧ SqT K H a vs ∧ Paired (TI K H) bs vs
def LB (K : PySem.W.Frag) (H : Hp) (bs : List (List Nat)) (v : V) : Prop := ∃ a vs, v = .ref a ∧ SqL K H a vs ∧ Paired (TI K H) bs vs
/-- a layout -/
def LY (K : PySem.W.Frag) (H : Hp) (l : Lay) (v : V) : Prop := ∃ a b, v = .ref a ∧ SqT K H a [.int (l.1 : Int), b] ∧ TB K H l.2 b
theorem TI.tk {b : List Nat} {v : V} (h : TI K H b v) (e : TK H H') : TI K H' b v := by
  obtain ⟨a, q, r⟩ := h
  exact ⟨a, q, sqt_tk e r⟩
theorem paired_ti {bs : List (List Nat)} {vs : List V} (h : Paired (TI K H) bs vs) (e : TK H H') : Paired (TI K H') bs vs := h.mono fun _ _ q => q.tk e
theorem TB.tk {b : List (List Nat)} {v : V} (h : TB K H b v) (e : TK H H') : TB K H' b v := by
  obtain ⟨a, vs, q, r, p⟩ := h
  exact ⟨a, vs, q, sqt_tk e r, paired_ti p e⟩
theorem LB.ex {b : List (List Nat)} {v : V} (h : LB K H b v) (e : Ex H H') : LB K H' b v := by
  obtain ⟨a, vs, q, r, p⟩ := h
  exact ⟨a, vs, q, ex_l e r, paired_ti p (tk_of e)⟩
theorem LY.tk {l : Lay} {v : V} (h : LY K H l v) (e : TK H H') : LY K H' l v := by
  obtain ⟨a, b, q, r, p⟩ := h
  exact ⟨a, b, q, sqt_tk e r, p.tk e⟩
end
/-! ### paired lists -/
section
variable {α β : Type} {F : α → β → Prop}
theorem paired_get : ∀ {l : List α} {m : List β} {i : Nat} {b : β}, Paired F l m → m[i]? = some b → ∃ a, l[i]? = some a ∧ F a b
  | _, _, _, _, .nil, h => by simp at h
  | _, _, 0, _, .cons r _, h => by
    simp at h
    subst h
    exact ⟨_, rfl, r⟩
  | _, _, i + 1, b, .cons _ t, h => by
    obtain ⟨a, h1, h2⟩ := paired_get (i := i) (b := b) t (by simpa using h)
    exact ⟨a, by simpa using h1, h2⟩
theorem paired_getl : ∀ {l : List α} {m : List β} {i : Nat} {a : α}, Paired F l m → l[i]? = some a → ∃ b, m[i]? = some b ∧ F a b
  | _, _, _, _, .nil, h => by simp at h
  | _, _, 0, _, .cons r _, h => by
    simp at h
    subst h
    exact ⟨_, rfl, r⟩
  | _, _, i + 1, a, .cons _ t, h => by
    obtain ⟨b, h1, h2⟩ := paired_getl (i := i) (a := a) t (by simpa using h)
    exact ⟨b, by simpa using h1, h2⟩
theorem paired_append : ∀ {l l' : List α} {m m' : List β}, Paired F l m → Paired F l' m' → Paired F (l ++ l') (m ++ m')
  | _, _, _, _, .nil, h => h
  | _, _, _, _, .cons r t, h => .cons r (paired_append t h)
/-- an equation for each: the second list is a map of the first -/
theorem paired_eq {g : α → β} : ∀ {l : List α} {m : List β}, Paired (fun a b => b = g a) l m → m = l.map g
  | _, _, .nil => rfl
  | _, _, .cons r t => by rw [r, paired_eq t]; rfl
theorem paired_mapl {γ : Type} {g : γ → α} : ∀ {l : List γ} {m : List β}, Paired (fun c b => F (g c) b) l m → Paired F (l.map g) m
  | _, _, .nil => .nil
  | _, _, .cons r t => .cons r (paired_mapl t)
/-- with what is true of each of the first -/
theorem paired_mem {P : α → Prop} : ∀ {l : List α} {m : List β}, Paired F l m → (∀ a ∈ l, P a) → Paired (fun a b => P a ∧ F a b) l m
  | _, _, .nil, _ => .nil
  | _, _, .cons r t, h => .cons ⟨h _ List.mem_cons_self, r⟩ (paired_mem t fun a ha => h a (List.mem_cons_of_mem _ ha))
/-- each of the first chosen -/
theorem paired_choose {P : α → Prop} : ∀ {γ : Type} {l : List γ} {m : List β} {G : γ → β → Prop}, Paired G l m → (∀ c b, G c b → ∃ a, P a ∧ F a b) → ∃ l' : List α, l'.length = l.length ∧ (∀ a ∈ l', P a) ∧ Paired F l' m
  | _, _, _, _, .nil, _ => ⟨[], rfl, (fun _ h => by cases h), Paired.nil⟩
  | _, _, _, _, .cons r t, h => by
    obtain ⟨a, h1, h2⟩ := h _ _ r
    obtain ⟨l', e, h3, h4⟩ := paired_choose t h
    exact ⟨a :: l', by simp [e], fun x hx => by
      rcases List.mem_cons.mp hx with q | q
      · rw [q]; exact h1
      · exact h3 x q, .cons h2 h4⟩
end
theorem paired_at {α β : Type} {F : α → β → Prop} {l : List α} {m : List β} (h : Paired F l m) {i : Nat} (hi : i < m.length) (d : α) (e : β) : F (l.getD i d) (m.getD i e) ∧ l.getD i d ∈ l ∧ i < l.length := by
  have hl : i < l.length := by
    rw [h.length]
    exact hi
  obtain ⟨b, h1, h2⟩ := paired_getl h (List.getElem?_eq_getElem hl)
  have e1 : l.getD i d = l[i] := by simp [List.getD_eq_getElem?_getD, hl]
  have e2 : m.getD i e = b := by simp [List.getD_eq_getElem?_getD, h1]
  rw [e1, e2]
  exact ⟨h2, List.getElem_mem hl, hl⟩
/-! ### a list comprehension, its turns told one by one -/
/-- the turns that are kept -/
def kept (n : Nat) (f : Nat → Bool) : List Nat := (List.range n).filter f
theorem kept_yes {n : Nat} {f : Nat → Bool} (h : f n = true) : kept (n + 1) f = kept n f ++ [n] := by
  unfold kept
  rw [List.range_succ, List.filter_append, List.filter_cons, if_pos h] <;> rfl
theorem kept_no {n : Nat} {f : Nat → Bool} (h : f n = false) : kept (n + 1) f = kept n f := by
  unfold kept
  rw [List.range_succ, List.filter_append, List.filter_cons, if_neg (by rw [h]; decide)]
  simp
theorem kept_len (n : Nat) (f : Nat → Bool) : (kept n f).length ≤ n := by
  unfold kept
  have h := List.length_filter_le f (List.range n)
  rw [List.length_range] at h
  exact h
theorem kept_all (n : Nat) : kept n (fun _ => true) = List.range n := List.filter_eq_self.mpr fun _ _ => rfl
/-- over a list's items: the turns kept are the items kept -/
theorem kept_map {α : Type} {p : α → Bool} {d : α} : ∀ (l : List α), (kept l.length fun i => p (l.getD i d)).map (fun i => l.getD i d) = l.filter p := by
  intro l
  have key : ∀ n, n ≤ l.length → (kept n fun i => p (l.getD i d)).map (fun i => l.getD i d) = (l.take n).filter p := by
    intro n
    induction n with
    | zero => intro _; simp [kept]
    | succ n ih =>
      intro hn
      have ih := ih (by omega)
      have hl : n < l.length := by omega
      have e : l.take (n + 1) = l.take n ++ [l.getD n d] := by
        rw [List.take_add_one, List.getElem?_eq_getElem hl]
        simp [List.getD_eq_getElem?_getD, hl]
      rw [e, List.filter_append]
      cases h : p (l.getD n d) with
      | true =>
        rw [kept_yes (f := fun i => p (l.getD i d)) h, List.map_append, ih, List.filter_cons, if_pos h]
        rfl
      | false =>
        rw [kept_no (f := fun i => p (l.getD i d)) h, ih, List.filter_cons, if_neg (by rw [h]; decide)]
        simp
  rw [key l.length (Nat.le_refl _), List.take_length]
theorem paired_kept {α β : Type} {F : α → β → Prop} {l : List α} {d : α} {p : α → Bool} {m : List β} (h : Paired (fun i v => F (l.getD i d) v) (kept l.length fun i => p (l.getD i d)) m) : Paired F (l.filter p) m := by
  rw [← kept_map (p := p) (d := d) l]
  exact paired_mapl h
theorem paired_range {α β : Type} {F : α → β → Prop} {l : List α} {d : α} {m : List β} (h : Paired (fun i v => F (l.getD i d) v) (kept l.length fun _ => true) m) : Paired F l m := by
  have e := paired_kept (p := fun _ => true) h
  have e2 : l.filter (fun _ => true) = l := List.filter_eq_self.mpr fun _ _ => rfl
  rw [e2] at e
  exact e
/-- what a comprehension's reading asks behind its new list D -/
abbrev LcW (J : It) (j : Nat) (tt : TT) (te : TE) (vs : List Nat) (σ : L2.St) (H1 : Hp) (D : Addr) (Qd : Hp → Prop) : Prop :=
    ∃ W : Nat → Nat → Hp → Prop, (∃ m, W 0 m (upd H1 D (.lst []))) ∧ ∀ i m H, W i m H →
      (J.stop i H ∧ Qd H) ∨ (J.go i H ∧ ∃ Nx : Hp → Prop, (∀ H', Nx H' → ∃ m', m' < m ∧ W (i + 1) m' H') ∧ ∀ x H', J.yld i H x H' → gName j x (wipe σ vs) H' fun σ2 H2 => wipe σ2 vs = wipe σ vs ∧ tt σ2 H2 fun b H3 =>
        if b = true then te σ2 H3 fun y H4 => ∃ acc, H4 D = some (.lst acc) ∧ acc.length < sizeLine ∧ Nx (upd H4 D (.lst (acc ++ [y]))) else Nx H3)
section
variable {J : It} {n : Nat} {G : Hp → Prop} {Y : Nat → Hp → V → Hp → Prop}
/-- any walk that gives item i and leaves the heap as it is; a target that is a name; each kept turn gives a thing that Rel tells of -/
theorem cl_it (w : Walk J n G Y) (item : Nat → V) (hY : ∀ i H x H', i < n → Y i H x H' → H' = H ∧ x = item i) {j : Nat} {tt : TT} {te : TE} {vs : List Nat} {σ : L2.St} {H1 : Hp} {D : Addr} {Qd : Hp → Prop}
    (f : Nat → Bool) (Rel : Nat → V → Hp → Prop) (hD : H1 D = none) (hn : n ≤ 40000) (hG : ∀ H', Ex H1 H' → G H') (hw : ∀ x, wipe ((wipe σ vs).set j (some x)) vs = wipe σ vs)
    (stab : ∀ i v H H', Rel i v H → KD D H H' → Rel i v H')
    (ht : ∀ i H2, i < n → Ex H1 H2 → ∀ Q : Bool → Hp → Prop, (∀ H3, Ex H2 H3 → Q (f i) H3) → tt ((wipe σ vs).set j (some (item i))) H2 Q)
    (he : ∀ i H2 acc, i < n → f i = true → Ex H1 H2 → H2 D = some (.lst acc) → ∀ Q : VK, (∀ v H3, Ex H2 H3 → Rel i v H3 → Q v H3) → te ((wipe σ vs).set j (some (item i))) H2 Q)
    (hd : ∀ H' out, Ex H1 H' → H' D = some (.lst out) → Paired (fun i v => Rel i v H') (kept n f) out → Qd H') :
    LcW J j tt te vs σ H1 D Qd := by
  refine lc_it w (fun i H => Ex H1 H ∧ ∃ acc, H D = some (.lst acc) ∧ Paired (fun i v => Rel i v H) (kept i f) acc) ⟨Ex.new hD, [], upd_same, .nil⟩ (fun i H _ p => hG H p.1) ?_ ?_
  · rintro i x H H' hi ⟨e1, acc, hacc, hp⟩ y
    obtain ⟨rfl, rfl⟩ := hY i H x H' hi y
    refine ⟨hw _, ht i H' hi e1 _ fun H3 e3 => ?_⟩
    have hacc3 : H3 D = some (.lst acc) := e3 _ _ hacc
    have hp3 : Paired (fun i v => Rel i v H3) (kept i f) acc := hp.mono fun _ _ q => stab _ _ _ _ q (KD.of e3)
    cases hf : f i with
    | false =>
      show Ex H1 H3 ∧ _
      exact ⟨e1.trans e3, acc, hacc3, by rw [kept_no hf]; exact hp3⟩
    | true =>
      show te _ H3 _
      refine he i H3 acc hi hf (e1.trans e3) hacc3 _ fun v H4 e4 r => ?_
      have hacc4 : H4 D = some (.lst acc) := e4 _ _ hacc3
      refine ⟨acc, hacc4, ?_, Ex.mut ((e1.trans e3).trans e4) hD, _, upd_same, ?_⟩
      · have l1 := hp.length
        have l2 := kept_len i f
        exact sz_lt (by omega)
      · rw [kept_yes hf]
        have k : KD D H4 (upd H4 D (.lst (acc ++ [v]))) := KD.lst hacc4
        exact (hp3.mono fun _ _ q => stab _ _ _ _ (stab _ _ _ _ q (KD.of e4)) k).snoc (stab _ _ _ _ r k)
  · rintro H ⟨e1, acc, hacc, hp⟩
    exact hd H acc e1 hacc hp
end
section
variable {K : PySem.W.Frag} {j : Nat} {tt : TT} {te : TE} {vs : List Nat} {σ : L2.St} {H1 : Hp} {D : Addr} {Qd : Hp → Prop}
theorem getD_of {xs : List V} {i : Nat} {x d : V} (h : xs[i]? = some x) : x = xs.getD i d := by simp [List.getD_eq_getElem?_getD, h]
theorem cl_list {a : Addr} {xs : List V} (hx : SqL K H1 a xs) (f : Nat → Bool) (Rel : Nat → V → Hp → Prop) (hD : H1 D = none) (hn : xs.length ≤ 40000) (hw : ∀ x, wipe ((wipe σ vs).set j (some x)) vs = wipe σ vs)
    (stab : ∀ i v H H', Rel i v H → KD D H H' → Rel i v H')
    (ht : ∀ i H2, i < xs.length → Ex H1 H2 → ∀ Q : Bool → Hp → Prop, (∀ H3, Ex H2 H3 → Q (f i) H3) → tt ((wipe σ vs).set j (some (xs.getD i .non))) H2 Q)
    (he : ∀ i H2 acc, i < xs.length → f i = true → Ex H1 H2 → H2 D = some (.lst acc) → ∀ Q : VK, (∀ v H3, Ex H2 H3 → Rel i v H3 → Q v H3) → te ((wipe σ vs).set j (some (xs.getD i .non))) H2 Q)
    (hd : ∀ H' out, Ex H1 H' → H' D = some (.lst out) → Paired (fun i v => Rel i v H') (kept xs.length f) out → Qd H') : LcW (Itl K a) j tt te vs σ H1 D Qd :=
  cl_it (walk_list (K := K) (a := a) (xs := xs)) (fun i => xs.getD i .non) (fun i H x H' _ y => ⟨y.1, getD_of y.2⟩) f Rel hD hn (fun H' e => ex_l e hx) hw stab ht he hd
theorem cl_tup {a : Addr} {xs : List V} (hx : SqT K H1 a xs) (f : Nat → Bool) (Rel : Nat → V → Hp → Prop) (hD : H1 D = none) (hn : xs.length ≤ 40000) (hw : ∀ x, wipe ((wipe σ vs).set j (some x)) vs = wipe σ vs)
    (stab : ∀ i v H H', Rel i v H → KD D H H' → Rel i v H')
    (ht : ∀ i H2, i < xs.length → Ex H1 H2 → ∀ Q : Bool → Hp → Prop, (∀ H3, Ex H2 H3 → Q (f i) H3) → tt ((wipe σ vs).set j (some (xs.getD i .non))) H2 Q)
    (he : ∀ i H2 acc, i < xs.length → f i = true → Ex H1 H2 → H2 D = some (.lst acc) → ∀ Q : VK, (∀ v H3, Ex H2 H3 → Rel i v H3 → Q v H3) → te ((wipe σ vs).set j (some (xs.getD i .non))) H2 Q)
    (hd : ∀ H' out, Ex H1 H' → H' D = some (.lst out) → Paired (fun i v => Rel i v H') (kept xs.length f) out → Qd H') : LcW (Itt K a) j tt te vs σ H1 D Qd :=
  cl_it (walk_tup (K := K) (a := a) (xs := xs)) (fun i => xs.getD i .non) (fun i H x H' _ y => ⟨y.1, getD_of y.2⟩) f Rel hD hn (fun H' e => ex_t e hx) hw stab ht he hd
theorem cl_range {n : Nat} (f : Nat → Bool) (Rel : Nat → V → Hp → Prop) (hD : H1 D = none) (hn : n ≤ 40000) (hw : ∀ x, wipe ((wipe σ vs).set j (some x)) vs = wipe σ vs)
    (stab : ∀ i v H H', Rel i v H → KD D H H' → Rel i v H')
    (ht : ∀ i H2, i < n → Ex H1 H2 → ∀ Q : Bool → Hp → Prop, (∀ H3, Ex H2 H3 → Q (f i) H3) → tt ((wipe σ vs).set j (some (.int (i : Int)))) H2 Q)
    (he : ∀ i H2 acc, i < n → f i = true → Ex H1 H2 → H2 D = some (.lst acc) → ∀ Q : VK, (∀ v H3, Ex H2 H3 → Rel i v H3 → Q v H3) → te ((wipe σ vs).set j (some (.int (i : Int)))) H2 Q)
    (hd : ∀ H' out, Ex H1 H' → H' D = some (.lst out) → Paired (fun i v => Rel i v H') (kept n f) out → Qd H') : LcW (Itr 0 n) j tt te vs σ H1 D Qd :=
  cl_it (walk_range (lo := 0) (n := n)) (fun i => .int (i : Int)) (fun i H x H' _ y => ⟨y.1, y.2.trans (congrArg V.int (Int.zero_add _))⟩) f Rel hD hn (fun H' _ => trivial) hw stab ht he hd
theorem cl_str {z : Str} (f : Nat → Bool) (Rel : Nat → V → Hp → Prop) (hD : H1 D = none) (hn : z.cps.size ≤ 40000) (hw : ∀ x, wipe ((wipe σ vs).set j (some x)) vs = wipe σ vs)
    (stab : ∀ i v H H', Rel i v H → KD D H H' → Rel i v H')
    (ht : ∀ i H2, i < z.cps.size → Ex H1 H2 → ∀ Q : Bool → Hp → Prop, (∀ H3, Ex H2 H3 → Q (f i) H3) → tt ((wipe σ vs).set j (some (.str ⟨#[z.cps.getD i 0]⟩))) H2 Q)
    (he : ∀ i H2 acc, i < z.cps.size → f i = true → Ex H1 H2 → H2 D = some (.lst acc) → ∀ Q : VK, (∀ v H3, Ex H2 H3 → Rel i v H3 → Q v H3) → te ((wipe σ vs).set j (some (.str ⟨#[z.cps.getD i 0]⟩))) H2 Q)
    (hd : ∀ H' out, Ex H1 H' → H' D = some (.lst out) → Paired (fun i v => Rel i v H') (kept z.cps.size f) out → Qd H') : LcW (Its z) j tt te vs σ H1 D Qd :=
  cl_it (walk_str (z := z)) (fun i => .str ⟨#[z.cps.getD i 0]⟩) (fun i H x H' _ y => by
    obtain ⟨y1, c, h1, h2⟩ := y
    refine ⟨y1, ?_⟩
    rw [h2]
    have e : z.cps.getD i 0 = c := by simp [Array.getD_eq_getD_getElem?, h1]
    rw [e]) f Rel hD hn (fun H' _ => trivial) hw stab ht he hd
end
/-! ### loops over a range, a list, a tuple; the target a name -/
section
variable {K : PySem.W.Frag} {j : Nat} {tb : TS} {D : Ends} {σ : L2.St} {H : Hp}
abbrev ForW (J : It) (j : Nat) (tb : TS) (D : Ends) (σ : L2.St) (H : Hp) : Prop := ∃ W : Nat → Nat → L2.St → Hp → Prop, (∃ m, W 0 m σ H) ∧ ∀ i m σ H, W i m σ H →
      (J.stop i H ∧ D.nx σ H) ∨ (J.go i H ∧ ∃ N : L2.St → Hp → Prop, (∀ σ' H', N σ' H' → ∃ m', m' < m ∧ W (i + 1) m' σ' H') ∧ ∀ x H', J.yld i H x H' → gName j x σ H' fun σ2 H2 => tb { D with nx := N, ct := N, bk := D.nx } σ2 H2)
theorem fr_range {n : Nat} (Pv : Nat → L2.St → Hp → Prop) (h0 : Pv 0 σ H) (hs : ∀ i σ H, i < n → Pv i σ H → tb { D with nx := Pv (i + 1), ct := Pv (i + 1), bk := D.nx } (σ.set j (some (.int (i : Int)))) H) (hd : ∀ σ H, Pv n σ H → D.nx σ H) : ForW (Itr 0 n) j tb D σ H :=
  for_it (walk_range (lo := 0) (n := n)) Pv h0 (fun _ _ _ _ _ => trivial) (fun i x σ H H' hi p y => by
    obtain ⟨rfl, rfl⟩ := y
    have e : (0 : Int) + (i : Int) = (i : Int) := Int.zero_add _
    show tb _ (σ.set j (some (.int ((0 : Int) + (i : Int))))) H'
    rw [e]
    exact hs i σ H' hi p) hd
theorem fr_list {a : Addr} {xs : List V} (Pv : Nat → L2.St → Hp → Prop) (h0 : Pv 0 σ H) (hl : ∀ i σ H, i ≤ xs.length → Pv i σ H → SqL K H a xs) (hs : ∀ i σ H, i < xs.length → Pv i σ H → tb { D with nx := Pv (i + 1), ct := Pv (i + 1), bk := D.nx } (σ.set j (some (xs.getD i .non))) H) (hd : ∀ σ H, Pv xs.length σ H → D.nx σ H) : ForW (Itl K a) j tb D σ H :=
  for_it (walk_list (K := K) (a := a) (xs := xs)) Pv h0 hl (fun i x σ H H' hi p y => by
    obtain ⟨rfl, hx⟩ := y
    have e : x = xs.getD i .non := by simp [List.getD_eq_getElem?_getD, hx]
    rw [e]
    exact hs i σ H' hi p) hd
theorem fr_tup {a : Addr} {xs : List V} (Pv : Nat → L2.St → Hp → Prop) (h0 : Pv 0 σ H) (hl : ∀ i σ H, i ≤ xs.length → Pv i σ H → SqT K H a xs) (hs : ∀ i σ H, i < xs.length → Pv i σ H → tb { D with nx := Pv (i + 1), ct := Pv (i + 1), bk := D.nx } (σ.set j (some (xs.getD i .non))) H) (hd : ∀ σ H, Pv xs.length σ H → D.nx σ H) : ForW (Itt K a) j tb D σ H :=
  for_it (walk_tup (K := K) (a := a) (xs := xs)) Pv h0 hl (fun i x σ H H' hi p y => by
    obtain ⟨rfl, hx⟩ := y
    have e : x = xs.getD i .non := by simp [List.getD_eq_getElem?_getD, hx]
    rw [e]
    exact hs i σ H' hi p) hd
end
/-! ### promises of defs that only make new things -/
def spR (P : List V → Hp → (V → Hp → Prop) → Prop) : Sp := fun vs H Q _ => ∃ R, P vs H R ∧ ∀ v H', Ex H H' → R v H' → Q v H'
end EM
set_option Elab.async false
set_option linter.all false
set_option maxRecDepth 100000
set_option maxHeartbeats 2000000
/-! The rules whose reading names the written part, with that part as a letter of its own (within a comprehension's block the reading may not name the block). -/
namespace EM
open PySem PySem.Spec PyProof.Rows L2 Evl
def rTupS (K : PySem.W.Frag) : List V → Hp → VK → Prop := fun xs H Q => ∃ p ys, xs = [.ref p] ∧ ((SqL K H p ys ∧ ∀ l, H l = none → Q (.ref l) (upd H l (.tup ys))) ∨ (SqT K H p ys ∧ Q (.ref p) H))
def rJoinS (K : PySem.W.Frag) : V → List V → Hp → VK → Prop := fun x xs H Q => ∃ a p, ∃ ys : List Str, x = .str a ∧ xs = [.ref p] ∧ (SqL K H p (ys.map V.str) ∨ SqT K H p (ys.map V.str)) ∧
      (ys.map (·.length)).sum + ys.length * a.length ≤ 16777216 ∧ Q (.str (Txt.join a ys)) H
section
variable {X : Cx} (K : PySem.W.Frag)
theorem xix_list (e : X.K = K := by rfl) : IxR X (rIxL K) := by
  subst e
  exact ix_list
theorem xix_tup (e : X.K = K := by rfl) : IxR X (rIxT K) := by
  subst e
  exact ix_tup
theorem xsl_list (e : X.K = K := by rfl) : SlR X (rSlL K) := by
  subst e
  exact sl_list
theorem xsl_tupA (e : X.K = K := by rfl) : SlR X (rSlA K) := by
  subst e
  exact sl_tupA
theorem xop_in (e : X.K = K := by rfl) : OpR X (compareOp .In) (rIn K false) := by
  subst e
  exact op_in_seq
theorem xop_notIn (e : X.K = K := by rfl) : OpR X (compareOp .NotIn) (rIn K true) := by
  subst e
  exact op_notIn_seq
theorem xop_inD (hu : X.A.units + 65 < cLine) (e : X.K = K := by rfl) : OpR X (compareOp .In) (rInD K) := by
  subst e
  exact op_inD hu
theorem xop_catA (e : X.K = K := by rfl) : OpR X (binaryOp .Add) (rCatA K) := by
  subst e
  exact op_catA
theorem xlen_seq (e : X.K = K := by rfl) : CallR X (.builtin "len") (rLenS K) := by
  subst e
  exact call_len_seq
theorem xlist_of (e : X.K = K := by rfl) : CallR X (.type "list") (rListS K) := by
  subst e
  exact call_list_of
theorem xtuple_of (e : X.K = K := by rfl) : CallR X (.type "tuple") (rTupS K) := by
  subst e
  exact call_tuple_of
theorem xall (hc : X.calm = true) (e : X.K = K := by rfl) : CallR X (.builtin "all") (rAll K) := by
  subst e
  exact cr_all hc
theorem xsortedI (e : X.K = K := by rfl) : CallR X (.builtin "sorted") (rSortedI K) := by
  subst e
  exact cr_sortedI
theorem xisi (e : X.K = K := by rfl) : CallR X (.builtin "isinstance") (rIsi K) := by
  subst e
  exact call_isi
theorem xindex (e : X.K = K := by rfl) : MtR X "list.index" (rIndex K) := by
  subst e
  exact mt_index
theorem xpe_bm {o a : Expr} {es : List Expr} {to : TE} {t : TA} {name : Str} {apos cpos : Pos} {T id : String} {r : V → List V → Hp → VK → Prop} (pa : PlainAttrs T) (slot : Slot T name id) (hty : typeOf (.builtin id) = pure (.type "method_descriptor")) (hm : MtR X id r) (ho : PE X o to) (ha : PA X (a :: es) t) (e : X.K = K := by rfl)
    (hbase : attributeBase o name X.env (eval o X.env) = eval o X.env := by rfl)
    (hfew : ((backTo cpos (starEach (a :: es) X.env)).all (fun x => !x.1) && (backToKw cpos (keywordEach [] X.env)).all (fun x => x.1.isSome)
      && decide ((a :: es).length + ([] : List Keyword).length + (if ([] : List Keyword).isEmpty then 0 else 1) < 30)) = true := by rfl)
    (hline : (apos.endLine == cpos.line) = true := by rfl) (hs : starEach (a :: es) X.env = (false, eval a X.env) :: starEach es X.env := by rfl) (hplain : (backTo cpos (starEach es X.env)).any (·.1) = false := by rfl) :
    PE X (.Call (.Attribute o name apos) (a :: es) [] cpos) (tBM K T r to t) := by
  subst e
  exact pe_bm pa slot hty hm ho ha hbase hfew hline hs hplain
theorem xpe_join {o a : Expr} {to te : TE} {apos pos : Pos} (ho : PE X o to) (ha : PE X a te) (e : X.K = K := by rfl) (hs : starEach [a] X.env = [(false, eval a X.env)] := by rfl) (hbase : attributeBase o "join" X.env (eval o X.env) = eval o X.env := by rfl) (hline : (apos.endLine == pos.line) = true := by rfl) :
    PE X (.Call (.Attribute o "join" apos) [a] [] pos) (tM1 (rJoinS K) to te) := by
  subst e
  exact pe_join ho ha hs hbase hline
theorem xpi_list {tg l : Expr} {tl : TE} (hl : PE X l tl) (e : X.K = K := by rfl) : PI X tg l (iList K tl) := by
  subst e
  exact pi_list hl
theorem xpi_tup {tg l : Expr} {tl : TE} (hl : PE X l tl) (e : X.K = K := by rfl) : PI X tg l (iTup K tl) := by
  subst e
  exact pi_tup hl
theorem xpe_fld {a : Expr} {ta : TE} {f : Str} {pos : Pos} (he : PE X a ta) (hb : attributeBase a f X.env (eval a X.env) = eval a X.env) (e : X.K = K := by rfl) : PE X (.Attribute a f pos) (tFld K ta f) := by
  subst e
  exact pe_fld he hb
theorem xpe_revL {a : Expr} {te : TE} {k : Nat} {p1 p2 p3 pos : Pos} (he : PE X a te) (e : X.K = K := by rfl) : PE X (.Subscript a (.Slice none none (some (.UnaryOp .USub (.Constant (.int 1) k p1) p2)) p3) pos) (tRevL K te) := by
  subst e
  exact pe_revL he
end
end EM
set_option Elab.async false
set_option linter.all false
set_option maxRecDepth 100000
set_option maxHeartbeats 2000000
/-! A list comprehension whose element may let an exception out. -/
namespace EM
open PySem PySem.Spec PyProof.Rows L2 Evl
open PySem.HandSPX (HeldZ FlyingZ TracedZ)
section
variable {X : Cx}
/-- an address that the def's own code does not see -/
structure Aside (X : Cx) (C : Addr) : Prop where
  loc : C ≠ X.env.locals
  fs : C ∉ X.fs
  new : C ∈ X.ex ∨ X.s_0.heap.objs.size ≤ C
  cel : ∀ x c, X.env.cells.lookup x = some c → c ≠ C
  pn : ∀ p ∈ X.pn, p.1 ≠ C
theorem hide_ne {h : Heap} {C b : Addr} {o : Obj} (e : (PySem.W.hideAll h [C]).get? b = some o) : h.get? b = some o ∧ b ≠ C := by
  refine ⟨PySem.W.of_hideAll _ e, fun z => ?_⟩
  rw [PySem.W.hideAll_none [C] (by simp [z])] at e
  cases e
theorem hide_no {h : Heap} {C b : Addr} (e : h.get? b = none) : (PySem.W.hideAll h [C]).get? b = none := by
  cases q : (PySem.W.hideAll h [C]).get? b with
  | none => rfl
  | some o =>
    have z := (hide_ne q).1
    rw [e] at z
    cases z
theorem xe_out (hs : X.stack = X.env :: X.outer) (hf : X.env.frame = some X.env.locals) {W : WX} (tk : Takes X W) {cenv : Env} (hcf : cenv.frame = X.env.frame) {u : Value} {s2 : Shared} {m : Str → Option Value} (hn : s2.heap.Ns cenv.locals m) (f : Aside X cenv.locals)
    (x : XE X (fun cls d σ H => W cls d σ H ∧ H cenv.locals = none) u s2) : notedBy (model X.prog X.w) X.A cenv (CompFails (model X.prog X.w) X.A X.xe cenv) u s2 := by
  obtain ⟨a, B, sI, pins, σ, H, cls, d, rfl, I, nb, up, sky, na, os, ag, w, hC⟩ := x
  have I0 : Inv X [] σ H sI := Inv.unpinned (pins := []) (pl := pins) I
  have I1 : Inv X [] σ H { sI with heap := PySem.W.hideAll sI.heap [cenv.locals], toks := sI.toks } := I0.turned (t' := sI.toks) (fun b o hb e => PySem.W.hideAll_get [cenv.locals] e (by simp [hb])) hC f.loc f.new f.cel (fun p hp => f.pn p (by rw [List.append_nil] at hp; exact hp))
  have hfr : X.A.frames = some (X.env :: X.outer) := by rw [I.ok.frames, hs]
  show wpAny _ _ (noteFrame (.ref a) cenv) _ _ s2
  rw [noteFrame_env _ hcf]
  have fin : ∀ h1, HeldZ B (X.env :: X.outer) a (Zc cls d) X.env.locals h1 → s2.heap.UpToSlots h1 → CompFails (model X.prog X.w) X.A X.xe cenv (.ref a) { s2 with heap := h1 } := by
    intro h1 hh up1
    have hn1 : h1.Ns cenv.locals m := Heap.Ns.upToSlots hn up1
    refine ⟨m, hn1, fun h2 m2 hn2 sb => ?_⟩
    obtain ⟨b1, b0, ff, oe, vs, T, oT, ts, he, hz, hd, hv1, hnT, hTe, hT, hdT, hv3⟩ := hh
    obtain ⟨oC, es, ep, hoC, hdC, _⟩ := hn1
    have aC : a ≠ cenv.locals := fun z => by
      rw [z, hoC] at he
      cases he
      rw [hdC] at hd
      cases hd
    have TC : T ≠ cenv.locals := fun z => by
      rw [z, hoC] at hT
      cases hT
      rw [hdC] at hdT
      cases hdT
    have he2 : h2.get? a = some oe := (sb.2 a aC).trans he
    have hT2 : h2.get? T = some oT := (sb.2 T TC).trans hT
    have hh2 : HeldZ (PySem.W.hideAll B [cenv.locals]) (X.env :: X.outer) a (Zc cls d) X.env.locals h2 :=
      ⟨fun b o e => (sb.2 b (hide_ne e).2).trans (b1 b o (hide_ne e).1), hide_no b0, funFrames_none (Heap.FunFrames.sameBut sb hn2 ff) fun L hL => hide_no (ff.mem hL).1,
        oe, vs, T, oT, ts, he2, hz, hd, hv1, hide_no hnT, hTe, hT2, hdT, hv3⟩
    unfold PySem.passOn
    refine wpAny_bind (wpAny_field he2 hd hv1 ?_)
    rw [if_neg (show ¬ ((Value.ref T == Value.none) = true) from by simp)]
    rw [hcf, hf]
    refine wpAny_bind (PySem.HandSPX.setFlight_onZ hh2 fun h3 hh3 up3 => wpAny_throw ?_)
    refine tk _ _ ⟨a, PySem.W.hideAll B [cenv.locals], _, [], σ, H, cls, d, rfl, I1, fun b o e hb => ?_, fun b o e hnf => ?_, .inr (.inr (by rw [hs]; exact hh3)), na, os, ag, w⟩
    · exact PySem.W.hideAll_get [cenv.locals] (nb b o (hide_ne e).1 hb) (by simp [(hide_ne e).2])
    · obtain ⟨e1, ne⟩ := hide_ne e
      obtain ⟨sl1, q1⟩ := up b o e1 hnf
      obtain ⟨sl2, q2⟩ := up1 b _ q1 hnf
      obtain ⟨sl3, q3⟩ := up3 b _ ((sb.2 b ne).trans q2) hnf
      exact ⟨sl3, q3⟩
  rw [hs] at sky
  rcases sky with ⟨hB, hnn, hl, oe, vs, he, hz, hd, h1⟩ | fl | hh
  · exact PySem.HandSPX.look_newZ Zc.steady hfr hl hf he hB hnn hd h1 hz fin
  · exact PySem.HandSPX.looks_onZ Zc.steady hfr hf fl fin
  · exact PySem.HandSPX.againZ hf hh.2.2.2 (fin s2.heap hh (Heap.UpToSlots.refl _))
theorem lc_coreX {pins : List (Addr × Obj)} {s : Shared} {σ : L2.St} {H : Hp} {Q : VK} {E : XK} {elt tg iter : Expr} {ifs : List Expr} {scope : Scope} {own : List (Str × Nat)} {pos pos' : Pos} {wi : L2.TI} {g : TG} {tt : TT} {te : TE}
    (hst : X.stack = X.env :: X.outer) (hf : X.env.frame = some X.env.locals) (tk : Takes X (fun cls d _ H => E cls d H))
    (hc : X.calm = true) (hN : X.N.Nodup) (I : Inv X pins σ H s) (hi : PI X tg iter wi) (ok : BlkOk X.N X.env.scope scope own)
    (hg : ∀ (s : Shared) (H : Hp) (C : Addr) (cl : List (Str × Addr)) (fp : List Addr), PG (X.blk s H scope (compEnvC scope cl C X.env) fp) tg g) (ht : ∀ (s : Shared) (H : Hp) (C : Addr) (cl : List (Str × Addr)) (fp : List Addr), PTs (X.blk s H scope (compEnvC scope cl C X.env) fp) ifs tt)
    (he : ∀ (s : Shared) (H : Hp) (C : Addr) (cl : List (Str × Addr)) (fp : List Addr) (xe : Value → Shared → Prop), Passes (L2.CX X.prog X.w) ((X.blk s H scope (compEnvC scope cl C X.env) fp).tr [] xe) E → PE ((X.blk s H scope (compEnvC scope cl C X.env) fp).tr [] xe) elt te) (hs : ∀ x, foldedSetIterable iter X.env x = pure x)
    (h : tLc wi g tt te (own.map (·.2)) σ H Q) :
    wpAny (model X.prog X.w) X.A (comprehension (.ListComp elt [⟨tg, iter, ifs, 0⟩] scope pos) scope X.env pos' (newList []) false (eval iter X.env) none) (EP X pins σ Q) X.xe s := by
  have hfree : ∀ y ∈ scope.names, y.2 = .free → ∃ c, X.env.cells.lookup y.1 = some c := fun y hy e => by
    rcases ok.free y hy e with k | k
    · exact I.ok.has _ (.inl k)
    · exact I.ok.has _ (.inr k)
  refine comprehension_at (use := none) rfl hs (closure_ok hfree) ok.kind (fun y hy e => by rw [ok.uniq y hy, e])
    (thn (hi.run pins s σ H _ I h) fun xv s1 hx => thn hx fun itv s2 h2 => ?_)
  obtain ⟨it, fp, tn, J, H2, e, I2, T, st2, f2, q⟩ := h2
  subst e
  refine wpAny_newObj_type (newEnv_comp ?_) (by show 0 ≤ sizeLine; decide)
  generalize hD : s2.heap.objs.size = D
  have hDn : H2 D = none := I2.hok.fresh (Nat.le_of_eq hD)
  obtain ⟨W, ⟨m0, w0⟩, turn⟩ := q D hDn
  generalize hs3 : ({ s2 with heap := s2.heap.push { cls := .type "list", data := .seq ([] : List Value).toArray } } : Shared) = s3
  have I3 : Inv X pins σ (upd H2 D (.lst [])) s3 := by
    rw [← hs3]
    refine I2.laid (t' := s2.toks) (fun b o e => Heap.get?_push_of_some _ e) (Nat.le_of_eq hD) ⟨Nat.zero_le _, [], 0, .nil, ?_⟩
    rw [← hD]
    exact Heap.get?_push_size _ rfl
  have h3 : s3.heap = s2.heap.push { cls := .type "list", data := .seq ([] : List Value).toArray } := by rw [← hs3]
  have sz : ∀ b ∈ fp, b < s2.heap.objs.size := fun b hb => by
    obtain ⟨o, e, _⟩ := T.obj _ _ st2 b hb
    exact Heap.lt_size e
  have f3 : ∀ b ∈ fp, FpOk X pins (upd H2 D (.lst [])) b ∧ b < s3.heap.objs.size := fun b hb => by
    have hlt := sz b hb
    refine ⟨⟨?_, (f2 b hb).2⟩, by rw [h3, Heap.size_push]; exact Nat.lt_succ_of_lt hlt⟩
    rw [upd_ne (by rw [← hD]; exact Nat.ne_of_lt hlt)]
    exact (f2 b hb).1
  have st3 : tn 0 s3.heap := T.keep _ _ _ st2 fun b _ o e => by rw [h3]; exact Heap.get?_push_of_some _ e
  have I4 := block_start I3 ok hN f3
  have pg := hg s3 (upd H2 D (.lst [])) s3.heap.objs.size (cellsFrom (s3.heap.objs.size + 1) scope.names (cloFrom X.env.cells scope.names [])) fp
  have pt := ht s3 (upd H2 D (.lst [])) s3.heap.objs.size (cellsFrom (s3.heap.objs.size + 1) scope.names (cloFrom X.env.cells scope.names [])) fp
  have pe := he s3 (upd H2 D (.lst [])) s3.heap.objs.size (cellsFrom (s3.heap.objs.size + 1) scope.names (cloFrom X.env.cells scope.names [])) fp
  show codeAny _ _ (.compStart (.ListComp elt [⟨tg, iter, ifs, 0⟩] scope pos) 0 (.ref it) (.ref D) (compEnvC scope (cellsFrom (s3.heap.objs.size + 1) scope.names (cloFrom X.env.cells scope.names [])) s3.heap.objs.size X.env)) (compEnds (model X.prog X.w) X.A X.xe none (EP X pins σ Q) (.ref D) (compEnvC scope (cellsFrom (s3.heap.objs.size + 1) scope.names (cloFrom X.env.cells scope.names [])) s3.heap.objs.size X.env)) { s3 with heap := pushCells (s3.heap.push { cls := .type "dict", data := .dict #[] }) scope.names }
  have nfp : ∀ b ∈ fp, (upd H2 D (.lst [])) b = none := fun b hb => (f3 b hb).1.1
  have hcf0 : (compEnvC scope (cellsFrom (s3.heap.objs.size + 1) scope.names (cloFrom X.env.cells scope.names [])) s3.heap.objs.size X.env).frame = X.env.frame := rfl
  generalize hce : compEnvC scope (cellsFrom (s3.heap.objs.size + 1) scope.names (cloFrom X.env.cells scope.names [])) s3.heap.objs.size X.env = ce at I4 pg pt pe hcf0 ⊢
  have cL : ce.locals = s3.heap.objs.size := by subst hce; rfl
  generalize hH3 : upd H2 D (.lst []) = H3 at I3 I4 pg pt pe w0 nfp f3
  generalize hs4 : ({ s3 with heap := pushCells (s3.heap.push { cls := .type "dict", data := .dict #[] }) scope.names } : Shared) = s4 at I4 ⊢
  have st4 : tn 0 s4.heap := T.keep _ _ _ st3 fun b _ o e => by rw [← hs4]; exact pushCells_keeps _ _ _ _ (Heap.get?_push_of_some _ e)
  have stat : ∀ {σ' : L2.St} {H' : Hp} {s' : Shared}, Inv (X.blk s3 H3 scope ce fp) [] σ' H' s' → (∀ b ∈ fp, H' b = none) → ∀ b ∈ fp, FpOk (X.blk s3 H3 scope ce fp) [] H' b := fun {σ' H' s'} I' hn b hb =>
    ⟨hn b hb, (I'.ok.exf b hb).1, I'.ok.exfs b hb, .inl hb, fun x c e => (I'.ok.exf b hb).2 x c e, fun p hp => absurd (show p ∈ ([] : List (Addr × Obj)) ++ [] from hp) (by simp)⟩
  have back : ∀ {σ' : L2.St} {H' : Hp} {s' : Shared} {pn : List (Addr × Obj)} {xe : Value → Shared → Prop} {pins' : List (Addr × Obj)}, Inv ((X.blk s3 H3 scope ce fp).tr pn xe) pins' σ' H' s' → Inv X pins σ H' s' := fun {σ' H' s' pn xe pins'} I6 =>
    I3.call' (ch := fp) I6.os I6.base I6.hok I6.bare fun b hb => ⟨(f3 b hb).1.2.2.2.1, (f3 b hb).1.2.1, (f3 b hb).1.2.2.2.2.1, (f3 b hb).1.2.2.2.2.2⟩
  have asd : Aside X ce.locals := by
    obtain ⟨_, a1, a2, a3, a4, a5⟩ := I3.fpOk (H' := fun _ => none) (b := ce.locals) (by rw [cL]; exact Nat.le_refl _) rfl
    exact ⟨fun z => a1 z, a2, a3, a4, fun p hp => a5 p (List.mem_append_left _ hp)⟩
  have nfr : ce.locals ∉ frs X.stack := fun hm => by
    rcases List.mem_cons.mp (I3.stkSub _ hm) with z | z
    · exact asd.loc z
    · exact asd.fs z
  -- what the element lets out
  have pass : Passes (L2.CX X.prog X.w) ((X.blk s3 H3 scope ce fp).tr [] (notedBy (model X.prog X.w) X.A ce (CompFails (model X.prog X.w) X.A X.xe ce))) E := by
    intro pins' σ' H' s' e s'' I' c
    have J := back I'
    obtain ⟨mC, hnC, _⟩ := I'.loc
    have hnC : s'.heap.Ns ce.locals mC := hnC
    have nC : H' ce.locals = none := I'.free
    have c : L2.CX X.prog X.w X.stack H' s' E e s'' := c
    obtain ⟨oC, es, ep, hoC, hdC, hrC⟩ := id hnC
    obtain ⟨a, B, H5, cls, d, rfl, fl, hok, ub, na, os, ag, hE⟩ := c
    have hC5 : H5 ce.locals = none := ub.free _ _ hoC nC
    have hC6 : s''.heap.get? ce.locals = some oC := fl.1 _ _ (ub.keep _ _ hoC nC nfr)
    have hn6 : s''.heap.Ns ce.locals mC := ⟨oC, es, ep, hC6, hdC, hrC⟩
    refine xe_out hst hf tk hcf0 hn6 asd (XE.of_call (W := fun cls d σ H => E cls d H ∧ H ce.locals = none) (E := fun cls d H => E cls d H ∧ H ce.locals = none) J (fun _ _ _ h => h) ?_)
    exact ⟨a, B, H5, cls, d, rfl, fl, hok, ub, na, os, ag, hE, hC5⟩
  have pe := pe _ pass
  have loop : codeAny (model X.prog X.w) X.A (.compLoop (.ListComp elt [⟨tg, iter, ifs, 0⟩] scope pos) 0 (.ref it) (.ref D) ce) (compEnds (model X.prog X.w) X.A X.xe none (EP X pins σ Q) (.ref D) ce) s4 := by
    refine compLoop_any (fun n s' => ∃ i H', Inv (X.blk s3 H3 scope ce fp) [] (wipe σ (own.map (·.2))) H' s' ∧ tn i s'.heap ∧ (∀ b ∈ fp, H' b = none) ∧ W i n H') ?_ m0 ⟨0, H3, I4, st4, nfp, w0⟩
    rintro n s5 ⟨i, H5, I5, st5, n5, w5⟩
    rcases turn i n H5 w5 with ⟨stop, qq⟩ | ⟨go, Nx, hNx, step⟩
    · have td := T.done (X.blk s3 H3 scope ce fp) rfl rfl rfl hc i [] s5 _ H5 (fun _ _ => False) I5 (stat I5 n5) st5 stop
      refine thnF td fun r s6 ⟨hr, I6⟩ => ?_
      subst hr
      have I7 : Inv X pins σ H5 s6 := back (pn := []) (xe := fun _ _ => False) (pins' := []) (I6.toTry _)
      obtain ⟨m, hn, _⟩ := I6.loc
      have hn : s6.heap.Ns ce.locals m := hn
      refine ⟨m, hn, fun h'' sb => ?_⟩
      have nC : H5 ce.locals = none := I6.free
      exact ⟨.ref D, H5, I7.turned (t' := s6.toks) (fun b o hb e => (sb.2 b hb).trans e) nC asd.loc asd.new asd.cel (fun p hp => by
        rcases List.mem_append.mp hp with z | z
        · exact asd.pn p z
        · obtain ⟨_, _, _, _, _, a5⟩ := I3.fpOk (H' := fun _ => none) (b := ce.locals) (by rw [cL]; exact Nat.le_refl _) rfl
          exact a5 p hp), rfl, qq⟩
    · have ti := T.item (X.blk s3 H3 scope ce fp) rfl rfl rfl hc i [] s5 _ H5 (fun _ _ => False) I5 (stat I5 n5) st5 go
      refine thnF ti fun r s6 ⟨u, hr, h6⟩ => ?_
      subst hr
      refine thnF h6 fun _ s7 ⟨x, H7, I7, r7, y7, st7, n7⟩ => ?_
      have I7' := I7.pinned (stat I7 n7) (T.obj _ _ st7)
      refine thnF (pg.run _ s7 _ H7 x u _ I7' r7 (step x H7 y7)) fun _ s8 ⟨σ8, H8, I8, hw8, q8⟩ => ?_
      refine thnF (pt.run _ s8 σ8 H8 _ I8 q8) fun b s9 ⟨H9, I9, q9⟩ => ?_
      have fin : ∀ {s' : Shared} {H' : Hp}, Inv (X.blk s3 H3 scope ce fp) ([] ++ pinsAt fp s7.heap) σ8 H' s' → Nx H' → ∃ m, m < n ∧ ∃ i H', Inv (X.blk s3 H3 scope ce fp) [] (wipe σ (own.map (·.2))) H' s' ∧ tn i s'.heap ∧ (∀ b ∈ fp, H' b = none) ∧ W i m H' := fun {s' H'} I' nx => by
        obtain ⟨m', hm, w'⟩ := hNx H' nx
        have pin' : ∀ b ∈ fp, ∀ o, s7.heap.get? b = some o → s'.heap.get? b = some o ∧ H' b = none := fun b hb o e =>
          let z := I'.pin (b, o) (List.mem_append_right _ (List.mem_append_right _ (mem_pinsAt hb e)))
          ⟨z.1, z.2.1⟩
        have hl : (wipe σ (own.map (·.2))).length = σ8.length := by rw [← hw8, wipe_length]
        refine ⟨m', hm, i + 1, H', (I'.unpinned (pins := [])).weak hl (fun j v e => ?_), T.keep _ _ _ st7 fun b hb o e => (pin' b hb o e).1, fun b hb => ?_, w'⟩
        · rw [← hw8] at e
          exact (wipe_some e).1
        · obtain ⟨o, e, _⟩ := T.obj _ _ st7 b hb
          exact (pin' b hb o e).2
      cases b with
      | false =>
        simp only [Bool.false_eq_true, if_false] at q9 ⊢
        exact fin I9 q9
      | true =>
        simp only [if_true] at q9 ⊢
        have I9' := I9.toTry (notedBy (model X.prog X.w) X.A ce (CompFails (model X.prog X.w) X.A X.xe ce))
        have I9'' : Inv ((X.blk s3 H3 scope ce fp).tr [] (notedBy (model X.prog X.w) X.A ce (CompFails (model X.prog X.w) X.A X.xe ce))) ([] ++ pinsAt fp s7.heap) σ8 H9 s9 := ⟨I9'.ok.ofTry.toTry _ _, I9.os, I9.bare, I9.base, I9.loc, I9.cell, I9.free, I9.freeC, I9.pin, I9.hok, I9.len⟩
        refine wpAny_mono (pe.run _ s9 σ8 H9 _ I9'' q9) (fun z s10 ⟨yv, H10, I10, r10, acc, hD10, hz10, nx⟩ => ?_) fun _ _ x => x
        have I10' : Inv (X.blk s3 H3 scope ce fp) ([] ++ pinsAt fp s7.heap) σ8 H10 s10 := ⟨I9.ok, I10.os, I10.bare, I10.base, I10.loc, I10.cell, I10.free, I10.freeC, I10.pin, I10.hok, I10.len⟩
        exact thnF (app_ok (X := X.blk s3 H3 scope ce fp) I10' hD10 hz10 r10 fun s11 I11 => fin I11 nx) fun _ _ x => x
  exact codeAny_compStart_list loop (T.self X.A 0 _ _ _ st4 loop)
/-- as a value, the element may let out what the def lets out -/
theorem pe_lcX {E : XK} {elt tg iter : Expr} {ifs : List Expr} {scope : Scope} {own : List (Str × Nat)} {pos : Pos} {wi : L2.TI} {g : TG} {tt : TT} {te : TE}
    (hst : X.stack = X.env :: X.outer) (hf : X.env.frame = some X.env.locals) (tk : Takes X (fun cls d _ H => E cls d H)) (hc : X.calm = true) (hN : X.N.Nodup) (hi : PI X tg iter wi) (ok : BlkOk X.N X.env.scope scope own)
    (hg : ∀ (s : Shared) (H : Hp) (C : Addr) (cl : List (Str × Addr)) (fp : List Addr), PG (X.blk s H scope (compEnvC scope cl C X.env) fp) tg g) (ht : ∀ (s : Shared) (H : Hp) (C : Addr) (cl : List (Str × Addr)) (fp : List Addr), PTs (X.blk s H scope (compEnvC scope cl C X.env) fp) ifs tt)
    (he : ∀ (s : Shared) (H : Hp) (C : Addr) (cl : List (Str × Addr)) (fp : List Addr) (xe : Value → Shared → Prop), Passes (L2.CX X.prog X.w) ((X.blk s H scope (compEnvC scope cl C X.env) fp).tr [] xe) E → PE ((X.blk s H scope (compEnvC scope cl C X.env) fp).tr [] xe) elt te) (hs : ∀ x, foldedSetIterable iter X.env x = pure x := by intro _; rfl) :
    PE X (.ListComp elt [⟨tg, iter, ifs, 0⟩] scope pos) (tLc wi g tt te (own.map (·.2))) := by
  refine ⟨fun pins s σ H Q I h => ?_⟩
  rw [eval_ListComp]
  exact lc_coreX hst hf tk hc hN I hi ok hg ht he hs h
end
end EM
set_option Elab.async false
set_option linter.all false
set_option maxRecDepth 100000
set_option maxHeartbeats 2000000
/-! zip(list, text), of one length. -/
namespace EM
open PySem PySem.Spec PyProof.Rows L2 Evl
def Itq (K : PySem.W.Frag) (a : Addr) (z : Str) : It :=
  ⟨fun i H => ∃ (xs : List V) (x : V), SqL K H a xs ∧ xs[i]? = some x ∧ i < z.cps.size,
    fun i H v H' => ∃ T x c, v = .ref T ∧ H T = none ∧ H' = upd H T (.tup [x, .str ⟨#[c]⟩]) ∧ (∀ xs, SqL K H a xs → xs[i]? = some x) ∧ z.cps[i]? = some c,
    fun i H => ∃ xs : List V, SqL K H a xs ∧ i = xs.length ∧ i = z.cps.size⟩
theorem turn_zipq {P : Program} {w : World} {K : PySem.W.Frag} {elts : List Expr} {kk : Nat} {tpos : Pos} {a z TI TO i1 i2 : Addr} {q : Str} {t : Tok} (D : ZipSep2 z TI TO i1 i2 [i1, a] [i2]) (ha : a ≠ i1) :
    Turn P w K (.Tuple elts kk tpos) (Itq K a q) [z, TI, TO, i1, i2] z (fun i h => IsZip h z TI TO .none ∧ IsTupOf2 h TI (.ref i1) (.ref i2) ∧ (∃ x y, IsTupOf2 h TO x y) ∧ h.IsListIter i1 a i ∧ h.IsStrIter i2 (strIterType q) q t i) where
  mem := by simp
  obj := fun i h st c hc => by
    obtain ⟨hz, hTI, ⟨x, y, hTO⟩, ⟨o1, e1, _, d1⟩, ⟨o2, e2, _, d2⟩⟩ := st
    have e' : c = z ∨ c = TI ∨ c = TO ∨ c = i1 ∨ c = i2 := by simpa using hc
    rcases e' with q | q | q | q | q
    · rw [q]; exact ⟨_, hz, fun v q => nomatch q⟩
    · rw [q]; exact ⟨_, hTI, fun v q => nomatch q⟩
    · rw [q]; exact ⟨_, hTO, fun v q => nomatch q⟩
    · rw [q]; exact ⟨o1, e1, fun v q => by rw [d1] at q; cases q⟩
    · rw [q]; exact ⟨o2, e2, fun v q => by rw [d2] at q; cases q⟩
  keep := fun i h h' st k => by
    obtain ⟨hz, hTI, ⟨x, y, hTO⟩, h1, ⟨o2, e2, r2⟩⟩ := st
    exact ⟨k z (by simp) _ hz, k TI (by simp) _ hTI, ⟨x, y, k TO (by simp) _ hTO⟩, h1.at fun o q => k i1 (by simp) o q, o2, k i2 (by simp) _ e2, r2⟩
  item := by
    intro X hP hw hK hc i pins s σ H E I hf st hg
    subst hP hw hK
    obtain ⟨hz, hTI, ⟨x0, y0, hTO⟩, h1, h2⟩ := st
    obtain ⟨xs, x, hqx, hx, hlt⟩ := hg
    obtain ⟨its, rv, p, _⟩ := I.list hqx
    obtain ⟨u, hu, ru⟩ := rv.get hx
    have hu' : its.toArray[i]? = some u := by simpa using hu
    have hzl : z < s.heap.objs.size := Heap.lt_size hz
    have hh := I.ok.hd hc
    have hi1 : i < its.toArray.size := (Array.getElem?_eq_some_iff.mp hu').1
    refine wpAny_pyNext_zipD2_item D (Draws.list (A := X.A.in1) hh i1 a ha its.toArray) (Draws.text (A := X.A.in1) hh i2 q t) hz hTI hTO ⟨h1, p.isList⟩ h2 hi1 hlt fun x1 x2 h' tk y1 y2 z' TO' h1' h2' hT hsz hk => ?_
    obtain ⟨c, uk, hc2, rfl⟩ := y2
    have e1 : x1 = u := Option.some.inj (y1.symm.trans hu')
    subst e1
    refine ⟨_, rfl, wpAny_letOwnedTupleGo_zip (s := { s with heap := h', toks := tk }) z' fun h'' z'' sb => ?_⟩
    have hT2 : h''.get? s.heap.objs.size = some { cls := .type "tuple", data := .seq #[x1, .str ⟨#[c]⟩ uk] } := (sb.2 _ (Nat.ne_of_gt hzl)).trans hT
    have new : ObjOk X.prog X.w (upd H s.heap.objs.size (.tup [x, .str ⟨#[c]⟩])) h'' s.heap.objs.size (.tup [x, .str ⟨#[c]⟩]) :=
      ⟨by show 2 ≤ sizeLine; decide, [x1, .str ⟨#[c]⟩ uk], .cons ru (.cons ⟨uk, rfl⟩ .nil), ⟨_, hT2, rfl, _, rfl⟩⟩
    have I1 : Inv X pins σ (upd H s.heap.objs.size (.tup [x, .str ⟨#[c]⟩])) { s with heap := h'', toks := tk } :=
      I.turnedNew (t' := tk) (ch := [z, TI, TO, i1, i2]) (fun c o hb q => (sb.2 c (fun q' => hb (by simp [q']))).trans (hk c o (fun q' => hb (by simp [q'])) (fun q' => hb (by simp [q'])) (fun q' => hb (by simp [q'])) (fun q' => hb (by simp [q'])) q)) hf (Nat.le_refl _) new
    refine ⟨.ref s.heap.objs.size, _, I1, rfl, ⟨_, x, c, rfl, I.hok.fresh (Nat.le_refl _), rfl, fun l hl => by rw [I.list_inj hl hqx]; exact hx, hc2⟩, ⟨z'', ?_, ⟨x1, .str ⟨#[c]⟩ uk, ?_⟩, ?_, ?_⟩, fun c hcm => ?_⟩
    · exact (sb.2 _ D.TIz).trans (hk _ _ D.TIz D.TITO D.TIi1 D.TIi2 hTI)
    · exact (sb.2 _ D.TOz).trans TO'
    · exact h1'.1.at fun o q => (sb.2 _ (fun e => D.zf1 (by rw [← e]; exact D.mem1))).trans q
    · obtain ⟨o2, e2, r2⟩ := h2'
      exact ⟨o2, (sb.2 _ (fun e => D.zf2 (by rw [← e]; exact D.mem2))).trans e2, r2⟩
    · have hlt : c < s.heap.objs.size := by
        have e' : c = z ∨ c = TI ∨ c = TO ∨ c = i1 ∨ c = i2 := by simpa using hcm
        rcases e' with q | q | q | q | q
        · rw [q]; exact hzl
        · rw [q]; exact Heap.lt_size hTI
        · rw [q]; exact Heap.lt_size hTO
        · rw [q]; obtain ⟨_, e1, _⟩ := h1; exact Heap.lt_size e1
        · rw [q]; obtain ⟨_, e2, _⟩ := h2; exact Heap.lt_size e2
      rw [upd_ne (Nat.ne_of_lt hlt)]
      exact (hf c hcm).1
  done := by
    intro X hP hw hK hc i pins s σ H E I hf st hg
    subst hP hw hK
    obtain ⟨hz, hTI, ⟨x0, y0, hTO⟩, h1, h2⟩ := st
    obtain ⟨xs, hqx, he1, he2⟩ := hg
    obtain ⟨its, rv, p, _⟩ := I.list hqx
    have l1 := rv.length
    have hh := I.ok.hd hc
    have hi1 : i = its.toArray.size := by simp; omega
    exact wpAny_pyNext_zipD2_end D (Draws.list (A := X.A.in1) hh i1 a ha its.toArray) (Draws.text (A := X.A.in1) hh i2 q t) hz hTI hTO ⟨h1, p.isList⟩ h2 (Nat.le_of_eq hi1) (Nat.le_of_eq he2) (.inl hi1) fun h' tk hk => ⟨rfl, I.turnedL (t' := tk) (ch := [z, TI, TO, i1, i2]) (fun c o hb q =>
      hk c o (fun q' => hb (by simp [q'])) (fun q' => hb (by simp [q'])) (fun q' => hb (by simp [q'])) (fun q' => hb (by simp [q'])) q) hf⟩
  self := fun A i s Q E st h => wpAny_pyIter_zip st.1 h
theorem sep_nat (n a : Nat) (h : a < n) : ZipSep2 (n + 4) (n + 2) (n + 3) n (n + 1) [n, a] [n + 1] := by
  have k : ∀ x y : Nat, x ≠ y → ¬ ((x : Addr) = y) := fun _ _ h => h
  constructor
  · exact k _ _ (by omega)
  · exact k _ _ (by omega)
  · exact k _ _ (by omega)
  · exact k _ _ (by omega)
  · exact List.mem_cons_self
  · intro m
    rcases List.mem_cons.mp m with e | m
    · exact k _ _ (by omega) e
    · exact k (n + 4) a (by omega) (List.mem_singleton.mp m)
  · intro m
    rcases List.mem_cons.mp m with e | m
    · exact k _ _ (by omega) e
    · exact k (n + 3) a (by omega) (List.mem_singleton.mp m)
  · exact k _ _ (by omega)
  · exact List.mem_cons_self
  · intro m
    exact k (n + 4) (n + 1) (by omega) (List.mem_singleton.mp m)
  · intro m
    exact k (n + 3) (n + 1) (by omega) (List.mem_singleton.mp m)
  · intro m
    exact k n (n + 1) (by omega) (List.mem_singleton.mp m)
  · intro m
    rcases List.mem_cons.mp m with e | m
    · exact k _ _ (by omega) e
    · exact k (n + 1) a (by omega) (List.mem_singleton.mp m)
def iZipq (K : PySem.W.Frag) (ta : L2.TA) : L2.TI := fun σ H R => ta σ H fun vs H1 => ∃ a z xs, vs = [.ref a, .str z] ∧ SqL K H1 a xs ∧ R (Itq K a z) H1
theorem pi_zipLS {X : Cx} {e e2 : Expr} {ta : L2.TA} {p pos tpos : Pos} {elts : List Expr} {kk : Nat} (hg : Gl X "zip") (hm : X.mg "zip" = none) (ha : PA X [e, e2] ta)
    (hs : starEach [e, e2] X.env = (false, eval e X.env) :: starEach [e2] X.env := by rfl) (hpl : (backTo pos (starEach [e2] X.env)).any (·.1) = false := by rfl) :
    PI X (.Tuple elts kk tpos) (.Call (.Name "zip" p) [e, e2] [] pos) (iZipq X.K ta) := by
  refine ⟨fun pins s σ H R I h => ?_⟩
  refine Call_ (ld_blt I hg hm PyProof.Rows.boot_zip (PyProof.Rows.callWith_type1 (thn (ha.run pos pins s σ H _ I h) fun us s1 ⟨vs, H1, I1, r1, q1⟩ => ?_) hs hpl))
  obtain ⟨a, z, xs, ex, hqx, q⟩ := q1
  subst ex
  cases r1 with
  | cons r rr =>
    cases rr with
    | cons r' rr =>
      cases rr
      cases r
      obtain ⟨t, rfl⟩ := r'
      obtain ⟨its, rv, p1, _⟩ := I1.list hqx
      have la : a < s1.heap.objs.size := p1.lt
      refine zip_begins2 (begins_list a its.toArray) (begins_text z t) p1.isList trivial fun h' hz hTI hTO h1 h2 hsz hk => wpAny_pyIter_zip hz ?_
      have I2 : Inv X pins σ H1 { s1 with heap := h' } := I1.kept (t' := s1.toks) hk
      refine ⟨s1.heap.objs.size + 4, [s1.heap.objs.size + 4, s1.heap.objs.size + 2, s1.heap.objs.size + 3, s1.heap.objs.size, s1.heap.objs.size + 1], _, _, H1, rfl, I2, turn_zipq (q := z) (t := t) ?_ (Nat.ne_of_lt la), ⟨hz, hTI, ⟨_, _, hTO⟩, ⟨_, h1, rfl, rfl⟩, ⟨_, h2, rfl, rfl⟩⟩, fun c hcm => ?_, q⟩
      · exact sep_nat s1.heap.objs.size a la
      have e' : c = s1.heap.objs.size + 4 ∨ c = s1.heap.objs.size + 2 ∨ c = s1.heap.objs.size + 3 ∨ c = s1.heap.objs.size ∨ c = s1.heap.objs.size + 1 := by simpa using hcm
      have hle : s1.heap.objs.size ≤ c := by
        rcases e' with z | z | z | z | z
        · rw [z]; exact Nat.le_add_right _ _
        · rw [z]; exact Nat.le_add_right _ _
        · rw [z]; exact Nat.le_add_right _ _
        · rw [z]; exact Nat.le_refl _
        · rw [z]; exact Nat.le_add_right _ _
      exact I1.fpOk hle (I1.hok.fresh hle)
/-- the written part a letter of its own -/
theorem xpi_zipLS {X : Cx} (K : PySem.W.Frag) {e e2 : Expr} {ta : L2.TA} {p pos tpos : Pos} {elts : List Expr} {kk : Nat} (hg : Gl X "zip") (hm : X.mg "zip" = none) (ha : PA X [e, e2] ta) (hK : X.K = K := by rfl)
    (hs : starEach [e, e2] X.env = (false, eval e X.env) :: starEach [e2] X.env := by rfl) (hpl : (backTo pos (starEach [e2] X.env)).any (·.1) = false := by rfl) :
    PI X (.Tuple elts kk tpos) (.Call (.Name "zip" p) [e, e2] [] pos) (iZipq K ta) := by
  subst hK
  exact pi_zipLS hg hm ha hs hpl
theorem xpg_tup {X : Cx} (K : PySem.W.Frag) {es : List Expr} {k : Nat} {t : TGs} {n : Nat} {pos : Pos} (hc : X.calm = true) (h : PGs X es t) (e : X.K = K := by rfl)
    (hn : (assignEach es X.env).length = n := by rfl) (hst : (assignEach es X.env).findIdx? (·.1) = none := by rfl) : PG X (.Tuple es k pos) (gTup K n t) := by
  subst e
  exact pg_tup hc h hn hst
theorem walk_zipq {K : PySem.W.Frag} {a : Addr} {xs : List V} {z : Str} (hl : xs.length = z.cps.size) : Walk (Itq K a z) xs.length (fun H => SqL K H a xs) (fun i H v H' => ∃ T, v = .ref T ∧ H T = none ∧ H' = upd H T (.tup [xs.getD i .non, .str ⟨#[z.cps.getD i 0]⟩])) :=
  ⟨fun i H hi q => ⟨xs, xs[i], q, by simp [hi], by omega⟩, fun H q => ⟨xs, q, rfl, hl⟩, fun i H v H' hi q y => by
    obtain ⟨T, x, c, h1, h2, h3, h4, h5⟩ := y
    refine ⟨T, h1, h2, ?_⟩
    have e1 : xs.getD i .non = x := by simp [List.getD_eq_getElem?_getD, h4 xs q]
    have e2 : z.cps.getD i 0 = c := by simp [Array.getD_eq_getD_getElem?, h5]
    rw [h3, e1, e2]⟩
/-- [elt for x, y in zip(list, text)] -/
theorem cl_zip {K : PySem.W.Frag} {j1 j2 : Nat} {g : TG} {te : TE} {vs : List Nat} {σ : L2.St} {H1 : Hp} {D : Addr} {Qd : Hp → Prop} {a : Addr} {xs : List V} {z : Str} (hx : SqL K H1 a xs) (hl : xs.length = z.cps.size)
    (hg : ∀ T x y σ H (k : L2.St → Hp → Prop), H T = some (.tup [x, y]) → k ((σ.set j1 (some x)).set j2 (some y)) H → g (.ref T) σ H k) (Rel : Nat → V → Hp → Prop) (hD : H1 D = none) (hn : xs.length ≤ 40000)
    (hw : ∀ x y, wipe (((wipe σ vs).set j1 (some x)).set j2 (some y)) vs = wipe σ vs) (stab : ∀ i v H H', Rel i v H → KD D H H' → Rel i v H')
    (he : ∀ i H2 acc, i < xs.length → Ex H1 H2 → H2 D = some (.lst acc) → ∀ Q : VK, (∀ v H3, Ex H2 H3 → Rel i v H3 → Q v H3) → te (((wipe σ vs).set j1 (some (xs.getD i .non))).set j2 (some (.str ⟨#[z.cps.getD i 0]⟩))) H2 Q)
    (hd : ∀ H' out, Ex H1 H' → H' D = some (.lst out) → Paired (fun i v => Rel i v H') (kept xs.length fun _ => true) out → Qd H') :
    ∃ W : Nat → Nat → Hp → Prop, (∃ m, W 0 m (upd H1 D (.lst []))) ∧ ∀ i m H, W i m H →
      ((Itq K a z).stop i H ∧ Qd H) ∨ ((Itq K a z).go i H ∧ ∃ Nx : Hp → Prop, (∀ H', Nx H' → ∃ m', m' < m ∧ W (i + 1) m' H') ∧ ∀ x H', (Itq K a z).yld i H x H' → g x (wipe σ vs) H' fun σ2 H2 => wipe σ2 vs = wipe σ vs ∧ tYes σ2 H2 fun b H3 =>
        if b = true then te σ2 H3 fun y H4 => ∃ acc, H4 D = some (.lst acc) ∧ acc.length < sizeLine ∧ Nx (upd H4 D (.lst (acc ++ [y]))) else Nx H3) := by
  refine lc_it (walk_zipq (K := K) (a := a) hl) (fun i H => Ex H1 H ∧ ∃ acc, H D = some (.lst acc) ∧ Paired (fun i v => Rel i v H) (kept i fun _ => true) acc) ⟨Ex.new hD, [], upd_same, .nil⟩ (fun i H _ p => ex_l p.1 hx) ?_ ?_
  · rintro i x H H' hi ⟨e1, acc, hacc, hp⟩ ⟨T, rfl, hT, rfl⟩
    have eT := Ex.new hT (o := .tup [xs.getD i .non, .str ⟨#[z.cps.getD i 0]⟩])
    have hacc0 := eT _ _ hacc
    have hp0 : Paired (fun i v => Rel i v _) (kept i fun _ => true) acc := hp.mono fun _ _ q => stab _ _ _ _ q (KD.of eT)
    refine hg T _ _ _ _ _ upd_same ⟨hw _ _, ?_⟩
    show te _ _ _
    refine he i _ acc hi (e1.trans eT) hacc0 _ fun v H4 e4 r => ?_
    have hacc4 : H4 D = some (.lst acc) := e4 _ _ hacc0
    refine ⟨acc, hacc4, ?_, Ex.mut ((e1.trans eT).trans e4) hD, _, upd_same, ?_⟩
    · have l1 := hp.length
      have l2 := kept_len i fun _ => true
      exact sz_lt (by omega)
    · rw [kept_yes (f := fun _ => true) rfl]
      have k : KD D H4 (upd H4 D (.lst (acc ++ [v]))) := KD.lst hacc4
      exact (hp0.mono fun _ _ q => stab _ _ _ _ (stab _ _ _ _ q (KD.of e4)) k).snoc (stab _ _ _ _ r k)
  · rintro H ⟨e1, acc, hacc, hp⟩
    exact hd H acc e1 hacc hp
end EM
set_option Elab.async false
set_option linter.all false
set_option maxRecDepth 100000
set_option maxHeartbeats 2000000
/-! The texts of layouts, plainly: written and read back. -/
namespace EM
open PySem L2
/-- a number's figures -/
def natS (n : Nat) : Str := Str.ofString (toString ((n : Nat) : Int))
def blkW (b : List Nat) : Str := if b = [] then Str.ofString "-" else Txt.join (Str.ofString ".") (b.map natS)
def layW (l : Lay) : List Str := (natS l.1 ++ Str.ofString ":") :: l.2.map blkW
def layT (l : Lay) : Str := Txt.join (Str.ofString " ") (layW l)
def basT (bs : List (List Nat)) : Str := Txt.join (Str.ofString " ") (bs.map blkW)
theorem tl_nat (n : Nat) : TL.tl (natS n) = TL.numL n := TL.tl_num n
theorem tl_blank : TL.tl (Str.ofString " ") = [32] := by decide +kernel
theorem tl_dot : TL.tl (Str.ofString ".") = [46] := by decide +kernel
theorem tl_colon : TL.tl (Str.ofString ":") = [58] := by decide +kernel
theorem tl_dash : TL.tl (Str.ofString "-") = [45] := by decide +kernel
theorem nat_digit {n c : Nat} (h : c ∈ TL.tl (natS n)) : 48 ≤ c ∧ c ≤ 57 := by
  rw [tl_nat] at h
  by_cases q : c < 48 ∨ 57 < c
  · exact absurd h (TL.numL_free q)
  · omega
theorem mem_joinL {S : List Nat} {c : Nat} : ∀ {ps : List (List Nat)}, c ∈ TL.joinL S ps → c ∈ S ∨ ∃ p ∈ ps, c ∈ p
  | [], h => by cases h
  | [p], h => .inr ⟨p, List.mem_cons_self, h⟩
  | p :: q :: r, h => by
    rcases List.mem_append.mp (show c ∈ p ++ (S ++ TL.joinL S (q :: r)) from h) with h | h
    · exact .inr ⟨p, List.mem_cons_self, h⟩
    · rcases List.mem_append.mp h with h | h
      · exact .inl h
      · rcases mem_joinL (ps := q :: r) h with h | ⟨z, hz, hc⟩
        · exact .inl h
        · exact .inr ⟨z, List.mem_cons_of_mem _ hz, hc⟩
theorem tl_joinT (y : Str) (ps : List Str) : TL.tl (Txt.join y ps) = TL.joinL (TL.tl y) (ps.map TL.tl) := by
  rw [TL.join_eq, TL.tl_join]
theorem mem_join {y : Str} {ps : List Str} {c : Nat} (h : c ∈ TL.tl (Txt.join y ps)) : c ∈ TL.tl y ∨ ∃ p ∈ ps, c ∈ TL.tl p := by
  rw [tl_joinT] at h
  rcases mem_joinL h with h | ⟨p, hp, hc⟩
  · exact .inl h
  · obtain ⟨z, hz, rfl⟩ := List.mem_map.mp hp
    exact .inr ⟨z, hz, hc⟩
/-- the signs of a block's word -/
theorem blk_signs {b : List Nat} {c : Nat} (h : c ∈ TL.tl (blkW b)) : (48 ≤ c ∧ c ≤ 57) ∨ (c = 46 ∧ b ≠ []) ∨ (c = 45 ∧ b = []) := by
  unfold blkW at h
  by_cases e : b = []
  · rw [if_pos e, tl_dash] at h
    exact .inr (.inr ⟨by simpa using h, e⟩)
  · rw [if_neg e] at h
    rcases mem_join h with h | ⟨p, hp, hc⟩
    · rw [tl_dot] at h
      exact .inr (.inl ⟨by simpa using h, e⟩)
    · obtain ⟨n, _, rfl⟩ := List.mem_map.mp hp
      exact .inl (nat_digit hc)
theorem blk_no32 (b : List Nat) : 32 ∉ TL.tl (blkW b) := fun h => by
  rcases blk_signs h with h | h | h <;> omega
theorem blk_ne {b : List Nat} (h : b ≠ []) : ¬ blkW b = Str.ofString "-" := fun e => by
  have m : 45 ∈ TL.tl (blkW b) := by
    rw [e, tl_dash]
    simp
  rcases blk_signs m with q | q | q
  · omega
  · omega
  · exact h q.2
theorem blk_nil : blkW [] = Str.ofString "-" := if_pos rfl
theorem lay_no32 {l : Lay} : ∀ p ∈ layW l, 32 ∉ TL.tl p := fun p hp h => by
  rcases List.mem_cons.mp hp with e | e
  · subst e
    rw [TL.tl_append] at h
    rcases List.mem_append.mp h with h | h
    · have := nat_digit h
      omega
    · rw [tl_colon] at h
      simp at h
  · obtain ⟨b, _, rfl⟩ := List.mem_map.mp e
    exact blk_no32 b h
theorem split_blank {ps : List Str} (h0 : ps ≠ []) (h : ∀ p ∈ ps, 32 ∉ TL.tl p) : Txt.split (Txt.join (Str.ofString " ") ps) (Str.ofString " ") = ps := TL.split_join tl_blank (by decide +kernel) h0 h
theorem split_lay (l : Lay) : Txt.split (layT l) (Str.ofString " ") = layW l := split_blank (by simp [layW]) lay_no32
theorem split_blk {b : List Nat} (h : b ≠ []) : Txt.split (blkW b) (Str.ofString ".") = b.map natS := by
  unfold blkW
  rw [if_neg h]
  refine TL.split_join tl_dot (by decide +kernel) (by simpa using h) fun p hp hc => ?_
  obtain ⟨n, _, rfl⟩ := List.mem_map.mp hp
  have := nat_digit hc
  omega
theorem split_bas {bs : List (List Nat)} (h : bs ≠ []) : Txt.split (basT bs) (Str.ofString " ") = bs.map blkW := split_blank (by simpa using h) fun p hp => by
  obtain ⟨b, _, rfl⟩ := List.mem_map.mp hp
  exact blk_no32 b
/-- joined behind a first word -/
theorem join_cons {y a : Str} {ps : List Str} (h : ps ≠ []) : Txt.join y (a :: ps) = a ++ y ++ Txt.join y ps := by
  refine TL.ext_tl ?_
  rw [TL.tl_append, TL.tl_append, tl_joinT, tl_joinT]
  cases ps with
  | nil => exact absurd rfl h
  | cons b r =>
    show TL.tl a ++ (TL.tl y ++ TL.joinL (TL.tl y) (TL.tl b :: r.map TL.tl)) = _
    rw [List.append_assoc]
    rfl
theorem join_one {y a : Str} : Txt.join y [a] = a := by
  refine TL.ext_tl ?_
  rw [tl_joinT]
  rfl
/-! ### sizes -/
theorem nat_len {n k : Nat} (hk : 0 < k) (h : n < 10 ^ k) : (natS n).length ≤ k := by
  rw [TL.len_tl, tl_nat]
  exact TL.numL_len hk h
theorem nat_pos (n : Nat) : 1 ≤ (natS n).length := by
  rw [TL.len_tl, tl_nat]
  have h := TL.numL_ne n
  cases e : TL.numL n with
  | nil => exact absurd e h
  | cons _ _ => simp
theorem sum_le {k : Nat} : ∀ {ys : List Str}, (∀ y ∈ ys, y.length ≤ k) → (ys.map (·.length)).sum ≤ ys.length * k
  | [], _ => by simp
  | y :: ys, h => by
    have ih := sum_le (ys := ys) fun z hz => h z (List.mem_cons_of_mem _ hz)
    have h1 := h y List.mem_cons_self
    rw [List.map_cons, List.sum_cons, List.length_cons, Nat.succ_mul]
    omega
theorem joinL_len {S : List Nat} : ∀ ps : List (List Nat), (TL.joinL S ps).length ≤ (ps.map List.length).sum + ps.length * S.length
  | [] => by simp [TL.joinL]
  | [p] => by
    show p.length ≤ _
    simp
  | p :: q :: r => by
    have ih := joinL_len (S := S) (q :: r)
    show (p ++ (S ++ TL.joinL S (q :: r))).length ≤ _
    rw [List.length_append, List.length_append, List.map_cons, List.sum_cons, List.length_cons (a := p), Nat.succ_mul]
    omega
theorem join_len {y : Str} {ps : List Str} : (Txt.join y ps).length ≤ (ps.map (·.length)).sum + ps.length * y.length := by
  rw [TL.len_tl, tl_joinT]
  have h := joinL_len (S := TL.tl y) (ps.map TL.tl)
  rw [List.length_map, List.map_map, ← TL.len_tl] at h
  have e : (List.length ∘ TL.tl) = fun s : Str => s.length := funext fun s => (TL.len_tl s).symm
  rw [e] at h
  exact h
theorem nats_sum {b : List Nat} (hl : b.length ≤ 60) (hb : ∀ p ∈ b, p < 100) : ((b.map natS).map (·.length)).sum + (b.map natS).length * 1 ≤ 180 := by
  have h := sum_le (k := 2) (ys := b.map natS) fun y hy => by
    obtain ⟨p, hp, rfl⟩ := List.mem_map.mp hy
    exact nat_len (by omega) (by have := hb p hp; omega)
  rw [List.length_map] at h ⊢
  omega
theorem blk_len {b : List Nat} (hl : b.length ≤ 60) (hb : ∀ p ∈ b, p < 100) : (blkW b).length ≤ 180 := by
  unfold blkW
  split
  · decide
  · have h := join_len (y := Str.ofString ".") (ps := b.map natS)
    have h2 := nats_sum hl hb
    have e : (Str.ofString ".").length = 1 := by decide
    rw [e] at h
    omega
theorem blks_sum {bs : List (List Nat)} (hm : bs.length ≤ 60) (hl : ∀ b ∈ bs, b.length ≤ 60 ∧ ∀ p ∈ b, p < 100) : ((bs.map blkW).map (·.length)).sum + (bs.map blkW).length * 1 ≤ 10860 := by
  have h := sum_le (k := 180) (ys := bs.map blkW) fun y hy => by
    obtain ⟨b, hb, rfl⟩ := List.mem_map.mp hy
    exact blk_len (hl b hb).1 (hl b hb).2
  rw [List.length_map] at h ⊢
  omega
theorem lok_small {l : Lay} (h : LOk l) : ∀ b ∈ l.2, b.length ≤ 60 ∧ ∀ p ∈ b, p < 100 := fun b hb => by
  have h1 := h.blk b hb
  have h2 := h.most
  exact ⟨Nat.le_trans h1.len h2, fun p hp => by have := h1.bel p hp; omega⟩
theorem append_len (x y : Str) : (x ++ y).length = x.length + y.length := by
  rw [TL.len_tl, TL.tl_append, List.length_append, ← TL.len_tl, ← TL.len_tl]
theorem head_len {l : Lay} (h : LOk l) : (natS l.1 ++ Str.ofString ":").length ≤ 3 := by
  rw [append_len]
  have h1 := nat_len (n := l.1) (k := 2) (by omega) (by have := h.most; omega)
  have e : (Str.ofString ":").length = 1 := by decide
  omega
theorem lay_sum {l : Lay} (h : LOk l) : ((layW l).map (·.length)).sum + (layW l).length * 1 ≤ 10870 := by
  have h1 := blks_sum h.many (lok_small h)
  have h2 := head_len h
  unfold layW
  rw [List.map_cons, List.sum_cons, List.length_cons]
  omega
theorem lay_len {l : Lay} (h : LOk l) : (layT l).length ≤ 10870 := by
  have h1 := join_len (y := Str.ofString " ") (ps := layW l)
  have h2 := lay_sum h
  have e : (Str.ofString " ").length = 1 := by decide
  rw [e] at h1
  unfold layT
  omega
theorem bas_len {bs : List (List Nat)} (hm : bs.length ≤ 60) (hl : ∀ b ∈ bs, b.length ≤ 60 ∧ ∀ p ∈ b, p < 100) : (basT bs).length ≤ 10860 := by
  have h1 := join_len (y := Str.ofString " ") (ps := bs.map blkW)
  have h2 := blks_sum hm hl
  have e : (Str.ofString " ").length = 1 := by decide
  rw [e] at h1
  unfold basT
  omega
/-! ### slices of n: -/
theorem cut_last (n : Nat) : cutS (natS n ++ Str.ofString ":") (some (-1)) none = Str.ofString ":" := by
  refine TL.ext_tl ?_
  have e : (natS n ++ Str.ofString ":").length = (natS n).length + 1 := by
    rw [append_len]
    rfl
  unfold cutS
  rw [e]
  have h1 : HT.sIx ((natS n).length + 1) 0 (some (-1)) = (natS n).length := by
    show (if (-1 : Int) < 0 then (-1 + (((natS n).length + 1 : Nat) : Int)).toNat else min (-1 : Int).toNat ((natS n).length + 1)) = (natS n).length
    rw [if_pos (by decide)]
    omega
  have h2 : HT.sIx ((natS n).length + 1) ((natS n).length + 1) none = (natS n).length + 1 := rfl
  rw [h1, h2]
  show (((TL.tl (natS n ++ Str.ofString ":")).drop (natS n).length).take ((natS n).length + 1 - (natS n).length)) = _
  rw [TL.tl_append, TL.len_tl, List.drop_left, tl_colon]
  have e3 : (TL.tl (natS n)).length + 1 - (TL.tl (natS n)).length = 1 := by omega
  rw [e3]
  rfl
theorem cut_front (n : Nat) : cutS (natS n ++ Str.ofString ":") none (some (-1)) = natS n := by
  refine TL.ext_tl ?_
  have e : (natS n ++ Str.ofString ":").length = (natS n).length + 1 := by
    rw [append_len]
    rfl
  unfold cutS
  rw [e]
  have h1 : HT.sIx ((natS n).length + 1) ((natS n).length + 1) (some (-1)) = (natS n).length := by
    show (if (-1 : Int) < 0 then (-1 + (((natS n).length + 1 : Nat) : Int)).toNat else min (-1 : Int).toNat ((natS n).length + 1)) = (natS n).length
    rw [if_pos (by decide)]
    omega
  have h2 : HT.sIx ((natS n).length + 1) 0 none = 0 := rfl
  rw [h1, h2]
  show (((TL.tl (natS n ++ Str.ofString ":")).drop 0).take ((natS n).length - 0)) = _
  rw [List.drop_zero, Nat.sub_zero, TL.tl_append, TL.len_tl, List.take_left]
/-! ### a number read -/
theorem num_head : ∀ (k n : Nat), n ≤ k → 0 < n → ∃ c r, TL.numL n = c :: r ∧ c ≠ 48
  | 0, n, h, h0 => by omega
  | k + 1, n, h, h0 => by
    by_cases hn : n < 10
    · exact ⟨48 + n, [], TL.numL_lt hn, by omega⟩
    · obtain ⟨c, r, e, hc⟩ := num_head k (n / 10) (by omega) (by omega)
      exact ⟨c, r ++ [48 + n % 10], by rw [TL.numL_step (by omega), e]; rfl, hc⟩
/-- a nought ahead: alone -/
theorem nat_nought {n : Nat} (h : (natS n).cps.toList[0]? = some 48) : (natS n).length = 1 := by
  have h : (TL.tl (natS n))[0]? = some 48 := h
  rw [tl_nat] at h
  by_cases e : n = 0
  · subst e
    decide
  · obtain ⟨c, r, e1, hc⟩ := num_head n n (Nat.le_refl _) (by omega)
    rw [e1] at h
    exact absurd (by simpa using h) hc
theorem figures : (Str.ofString "0123456789").cps.toList = [48, 49, 50, 51, 52, 53, 54, 55, 56, 57] := by decide +kernel
theorem fig_mem {c : Nat} (h : 48 ≤ c ∧ c ≤ 57) : c ∈ (Str.ofString "0123456789").cps.toList := by
  rw [figures]
  have e : c = 48 ∨ c = 49 ∨ c = 50 ∨ c = 51 ∨ c = 52 ∨ c = 53 ∨ c = 54 ∨ c = 55 ∨ c = 56 ∨ c = 57 := by omega
  rcases e with e | e | e | e | e | e | e | e | e | e <;> subst e <;> decide
theorem nat_int {n : Nat} (h : (natS n).length ≤ 6) : PySem.intText? (natS n) = some (n : Int) := TL.int_num (by
  rw [TL.len_tl, tl_nat] at h
  omega)
end EM
set_option Elab.async false
set_option linter.all false
set_option maxRecDepth 100000
set_option maxHeartbeats 2000000
/-! The rows that a desk is told, plainly. -/
namespace EM
open PySem L2
/-- a name: one to eight letters -/
structure Nm (z : Str) : Prop where
  pos : 1 ≤ z.length
  most : z.length ≤ 8
  let_ : ∀ c ∈ TL.tl z, 97 ≤ c ∧ c ≤ 122
inductive Row
  | put (n : Str) (l : Lay)
  | one (du : Bool) (n m : Str)
  | pt (off : Bool) (n m : Str) (p : Nat)
  | turn (n : Str) (k : Nat) (bs : List (List Nat))
  | tell (n : Str)
def Row.word : Row → Str
  | .put _ _ => "put"
  | .one false _ _ => "complement"
  | .one true _ _ => "dual"
  | .pt false _ _ _ => "at"
  | .pt true _ _ _ => "off"
  | .turn _ _ _ => "turned"
  | .tell _ => "show"
def Row.kinds : Row → Str
  | .put _ _ => "wt"
  | .one _ _ _ => "ww"
  | .pt _ _ _ _ => "wwn"
  | .turn _ _ _ => "wnt"
  | .tell _ => "w"
/-- the words behind the first -/
def Row.args : Row → List Str
  | .put n l => n :: layW l
  | .one _ n m => [n, m]
  | .pt _ n m p => [n, m, natS p]
  | .turn n k bs => n :: natS k :: bs.map blkW
  | .tell n => [n]
/-- the same, the text behind the last blank one word -/
def Row.cut : Row → List Str
  | .put n l => [n, layT l]
  | .one _ n m => [n, m]
  | .pt _ n m p => [n, m, natS p]
  | .turn n k bs => [n, natS k, basT bs]
  | .tell n => [n]
def Row.things : Row → List V
  | .put n l => [.str n, .str (layT l)]
  | .one _ n m => [.str n, .str m]
  | .pt _ n m p => [.str n, .str m, .int (p : Int)]
  | .turn n k bs => [.str n, .int (k : Int), .str (basT bs)]
  | .tell n => [.str n]
def Row.words (r : Row) : List Str := r.word :: r.args
def Row.text (r : Row) : Str := Txt.join (Str.ofString " ") r.words
def Row.ok : Row → Prop
  | .put n l => Nm n ∧ LOk l
  | .one _ n m => Nm n ∧ Nm m
  | .pt _ n m p => Nm n ∧ Nm m ∧ p < 100
  | .turn n k bs => Nm n ∧ k < 100 ∧ bs ≠ [] ∧ bs.length ≤ 60 ∧ ∀ b ∈ bs, b.length ≤ 60 ∧ ∀ p ∈ b, p < 100
  | .tell n => Nm n
theorem nm_no32 {z : Str} (h : Nm z) : 32 ∉ TL.tl z := fun m => by
  have := h.let_ 32 m
  omega
theorem nm_put : Nm "put" := ⟨by decide +kernel, by decide +kernel, by decide +kernel⟩
theorem nm_dual : Nm "dual" := ⟨by decide +kernel, by decide +kernel, by decide +kernel⟩
theorem nm_at : Nm "at" := ⟨by decide +kernel, by decide +kernel, by decide +kernel⟩
theorem nm_off : Nm "off" := ⟨by decide +kernel, by decide +kernel, by decide +kernel⟩
theorem nm_turned : Nm "turned" := ⟨by decide +kernel, by decide +kernel, by decide +kernel⟩
theorem nm_show : Nm "show" := ⟨by decide +kernel, by decide +kernel, by decide +kernel⟩
theorem nm_wish : Nm "wish" := ⟨by decide +kernel, by decide +kernel, by decide +kernel⟩
theorem word_nm (r : Row) : Nm r.word ∨ r.word = "complement" := by
  cases r with
  | one du n m => cases du with
    | false => exact .inr rfl
    | true => exact .inl nm_dual
  | pt off n m p => cases off with
    | false => exact .inl nm_at
    | true => exact .inl nm_off
  | put n l => exact .inl nm_put
  | turn n k bs => exact .inl nm_turned
  | tell n => exact .inl nm_show
theorem word_no32 (r : Row) : 32 ∉ TL.tl r.word := by
  rcases word_nm r with h | h
  · exact nm_no32 h
  · rw [h]
    decide +kernel
theorem nat_no32 (n : Nat) : 32 ∉ TL.tl (natS n) := fun m => by
  have := nat_digit m
  omega
theorem row_no32 {r : Row} (h : r.ok) : ∀ p ∈ r.words, 32 ∉ TL.tl p := fun p hp => by
  rcases List.mem_cons.mp hp with e | e
  · rw [e]
    exact word_no32 r
  · cases r with
    | put n l =>
      rcases List.mem_cons.mp e with e | e
      · rw [e]
        exact nm_no32 h.1
      · exact lay_no32 p e
    | one du n m =>
      simp [Row.args] at e
      rcases e with e | e
      · rw [e]; exact nm_no32 h.1
      · rw [e]; exact nm_no32 h.2
    | pt off n m q =>
      simp [Row.args] at e
      rcases e with e | e | e
      · rw [e]; exact nm_no32 h.1
      · rw [e]; exact nm_no32 h.2.1
      · rw [e]; exact nat_no32 q
    | turn n k bs =>
      rcases List.mem_cons.mp e with e | e
      · rw [e]; exact nm_no32 h.1
      · rcases List.mem_cons.mp e with e | e
        · rw [e]; exact nat_no32 k
        · obtain ⟨b, _, rfl⟩ := List.mem_map.mp e
          exact blk_no32 b
    | tell n =>
      simp [Row.args] at e
      rw [e]
      exact nm_no32 h
theorem split_row {r : Row} (h : r.ok) : Txt.split r.text (Str.ofString " ") = r.words := split_blank (by simp [Row.words]) (row_no32 h)
theorem word_len (r : Row) : r.word.length ≤ 10 := by
  rcases word_nm r with h | h
  · have := h.most
    omega
  · rw [h]
    decide
theorem args_sum {r : Row} (h : r.ok) : (r.args.map (·.length)).sum + r.args.length * 1 ≤ 10900 := by
  cases r with
  | put n l =>
    have h1 := lay_sum h.2
    have h2 := h.1.most
    simp only [Row.args, List.map_cons, List.sum_cons, List.length_cons] at h1 ⊢
    omega
  | one du n m =>
    have h1 := h.1.most
    have h2 := h.2.most
    simp [Row.args]
    omega
  | pt off n m q =>
    have h1 := h.1.most
    have h2 := h.2.1.most
    have h3 := nat_len (n := q) (k := 2) (by omega) (by have := h.2.2; omega)
    simp [Row.args]
    omega
  | turn n k bs =>
    have h1 := h.1.most
    have h3 := nat_len (n := k) (k := 2) (by omega) (by have := h.2.1; omega)
    have h4 := blks_sum h.2.2.2.1 h.2.2.2.2
    simp only [Row.args, List.map_cons, List.sum_cons, List.length_cons] at h4 ⊢
    omega
  | tell n =>
    have h1 : n.length ≤ 8 := h.most
    simp [Row.args]
    omega
theorem row_sum {r : Row} (h : r.ok) : (r.words.map (·.length)).sum + r.words.length * 1 ≤ 10920 := by
  have h1 := args_sum h
  have h2 := word_len r
  simp only [Row.words, List.map_cons, List.sum_cons, List.length_cons] at h1 ⊢
  omega
theorem row_len {r : Row} (h : r.ok) : r.text.length ≤ 10920 := by
  have h1 := join_len (y := Str.ofString " ") (ps := r.words)
  have h2 := row_sum h
  have e : (Str.ofString " ").length = 1 := by decide
  rw [e] at h1
  unfold Row.text
  omega
def Row.isT : Row → Bool
  | .put _ _ => true
  | .turn _ _ _ => true
  | _ => false
theorem k_wt : TL.tl ("wt" : Str) = [119, 116] := by decide +kernel
theorem k_ww : TL.tl ("ww" : Str) = [119, 119] := by decide +kernel
theorem k_wwn : TL.tl ("wwn" : Str) = [119, 119, 110] := by decide +kernel
theorem k_wnt : TL.tl ("wnt" : Str) = [119, 110, 116] := by decide +kernel
theorem k_w : TL.tl ("w" : Str) = [119] := by decide +kernel
theorem kinds_len (r : Row) : r.kinds.length = r.cut.length := by
  rw [TL.len_tl]
  cases r with
  | put n l => show (TL.tl ("wt" : Str)).length = _; rw [k_wt]; rfl
  | one du n m => show (TL.tl ("ww" : Str)).length = _; rw [k_ww]; rfl
  | pt off n m p => show (TL.tl ("wwn" : Str)).length = _; rw [k_wwn]; rfl
  | turn n k bs => show (TL.tl ("wnt" : Str)).length = _; rw [k_wnt]; rfl
  | tell n => show (TL.tl ("w" : Str)).length = _; rw [k_w]; rfl
theorem things_len (r : Row) : r.things.length = r.cut.length := by cases r <;> rfl
theorem cut_small (r : Row) : r.cut.length ≤ 3 ∧ 1 ≤ r.cut.length := by cases r <;> simp [Row.cut]
theorem row_last (r : Row) : ∃ c, atI (TL.tl r.kinds) (-1) = some c ∧ (c = 116 ↔ r.isT = true) := by
  cases r with
  | put n l => exact ⟨116, by show atI (TL.tl ("wt" : Str)) (-1) = _; rw [k_wt]; rfl, by simp [Row.isT]⟩
  | one du n m => exact ⟨119, by show atI (TL.tl ("ww" : Str)) (-1) = _; rw [k_ww]; rfl, by simp [Row.isT]⟩
  | pt off n m p => exact ⟨110, by show atI (TL.tl ("wwn" : Str)) (-1) = _; rw [k_wwn]; rfl, by simp [Row.isT]⟩
  | turn n k bs => exact ⟨116, by show atI (TL.tl ("wnt" : Str)) (-1) = _; rw [k_wnt]; rfl, by simp [Row.isT]⟩
  | tell n => exact ⟨119, by show atI (TL.tl ("w" : Str)) (-1) = _; rw [k_w]; rfl, by simp [Row.isT]⟩
theorem cut_eq {r : Row} (h : r.isT = true) : r.words.take r.cut.length ++ [Txt.join (Str.ofString " ") (r.words.drop r.cut.length)] = r.word :: r.cut := by
  cases r with
  | put n l => rfl
  | turn n k bs => rfl
  | one du n m => cases h
  | pt off n m p => cases h
  | tell n => cases h
theorem cut_more {r : Row} (h : r.isT = true) (ho : r.ok) : r.cut.length < r.words.length := by
  cases r with
  | put n l => simp [Row.cut, Row.words, Row.args, layW]
  | turn n k bs =>
    have h1 : bs ≠ [] := ho.2.2.1
    have h2 : 0 < bs.length := List.length_pos_iff.mpr h1
    simp [Row.cut, Row.words, Row.args]
    omega
  | one du n m => cases h
  | pt off n m p => cases h
  | tell n => cases h
theorem cut_args {r : Row} (h : r.isT = false) : r.words = r.word :: r.cut := by
  cases r with
  | put n l => cases h
  | turn n k bs => cases h
  | one du n m => rfl
  | pt off n m p => rfl
  | tell n => rfl
theorem drop_sum : ∀ (l : List Str) (k : Nat), ((l.drop k).map (·.length)).sum + (l.drop k).length * 1 ≤ (l.map (·.length)).sum + l.length * 1
  | [], k => by simp
  | x :: l, 0 => by simp
  | x :: l, k + 1 => by
    have h := drop_sum l k
    rw [List.drop_succ_cons, List.map_cons, List.sum_cons, List.length_cons]
    omega
/-- what a word of a kind tells -/
inductive Thing : Str → Nat → V → Prop
  | text (z : Str) : Thing z 116 (.str z)
  | name {z : Str} (h : Nm z) : Thing z 119 (.str z)
  | num {p : Nat} (h : p < 100) : Thing (natS p) 110 (.int (p : Int))
theorem row_thing {r : Row} (h : r.ok) {i : Nat} (hi : i < r.cut.length) : Thing (r.cut.getD i Str.empty) ((TL.tl r.kinds).getD i 0) (r.things.getD i .non) := by
  cases r with
  | put n l =>
    show Thing _ ((TL.tl ("wt" : Str)).getD i 0) _
    rw [k_wt]
    match i, hi with
    | 0, _ => exact .name h.1
    | 1, _ => exact .text _
  | one du n m =>
    show Thing _ ((TL.tl ("ww" : Str)).getD i 0) _
    rw [k_ww]
    match i, hi with
    | 0, _ => exact .name h.1
    | 1, _ => exact .name h.2
  | pt off n m p =>
    show Thing _ ((TL.tl ("wwn" : Str)).getD i 0) _
    rw [k_wwn]
    match i, hi with
    | 0, _ => exact .name h.1
    | 1, _ => exact .name h.2.1
    | 2, _ => exact .num h.2.2
  | turn n k bs =>
    show Thing _ ((TL.tl ("wnt" : Str)).getD i 0) _
    rw [k_wnt]
    match i, hi with
    | 0, _ => exact .name h.1
    | 1, _ => exact .num h.2.1
    | 2, _ => exact .text _
  | tell n =>
    show Thing _ ((TL.tl ("w" : Str)).getD i 0) _
    rw [k_w]
    match i, hi with
    | 0, _ => exact .name h
theorem cutV_take {xs : List V} {k : Nat} (h : k ≤ xs.length) : cutV xs none (some (k : Int)) = xs.take k := by
  unfold cutV
  rw [HT.sIx_none, show HT.sIx xs.length xs.length (some (k : Int)) = min k xs.length from HT.sIx_nat _ _ _, List.drop_zero, Nat.min_eq_left h, Nat.sub_zero]
theorem cutV_drop {xs : List V} {k : Nat} (h : k ≤ xs.length) : cutV xs (some (k : Int)) none = xs.drop k := by
  unfold cutV
  rw [HT.sIx_none, show HT.sIx xs.length 0 (some (k : Int)) = min k xs.length from HT.sIx_nat _ _ _, Nat.min_eq_left h]
  rw [← List.length_drop, List.take_length]
end EM
set_option Elab.async false
set_option linter.all false
set_option maxRecDepth 100000
set_option maxHeartbeats 2000000
namespace EM
open PySem PySem.Spec PyProof.Rows L2 Evl
section
variable {P : Program} {w : World} {K : PySem.W.Frag} {mg : Str → Option Value} {base : Heap}
theorem ifT {c : Bool} {A B : Prop} (hc : c = true) (h : A) : if c = true then A else B := by
  rw [if_pos hc]
  exact h
theorem ifF {c : Bool} {A B : Prop} (hc : c = false) (h : B) : if c = true then A else B := by
  rw [hc, if_neg Bool.false_ne_true]
  exact h
theorem kit_ii : PySem.W.kitOne K (.type "int") (.type "int") = some true := by
  unfold PySem.W.kitOne
  kernel_rfl
theorem kit_ib : PySem.W.kitOne K (.type "int") (.type "bool") = some false := by
  unfold PySem.W.kitOne
  kernel_rfl
theorem kit_ss : PySem.W.kitOne K (.type "str") (.type "str") = some true := by
  unfold PySem.W.kitOne
  kernel_rfl
theorem fmodN (a n : Nat) : Int.fmod (a : Int) (n : Int) = ((a % n : Nat) : Int) := by
  rw [Int.fmod_eq_emod_of_nonneg _ (by omega)]
  push_cast
  rfl
theorem len_nat {n : Nat} (h : n ≤ 100000) : n ≤ sizeLine := Nat.le_trans h (by decide)
/-! ### is_whole(thing), thing a number -/
def sp_is_whole_layouts (K : PySem.W.Frag) : Sp := fun vs H Q _ => ∃ i : Int, vs = [.int i] ∧ Q (.bl true) H
abbrev sp_is_whole_numbers := sp_is_whole_layouts
theorem sc_is_whole_layouts : FnScope ["thing"] ["thing"] (defScope sIsWholeL) := ⟨rfl, rfl, rfl, by decide +kernel, rfl, by decide +kernel, by decide +kernel⟩
theorem sc_is_whole_numbers : FnScope ["thing"] ["thing"] (defScope sIsWholeN) := ⟨rfl, rfl, rfl, by decide +kernel, rfl, by decide +kernel, by decide +kernel⟩
theorem ok_is_whole_layouts (F : At K mg "is_whole_layouts" "is_whole" sIsWholeL) (T : Tx K w mg) : Cal P w K mg base CX0 1 "is_whole_layouts" ["thing"] (sp_is_whole_layouts K) := by
  have S := sc_is_whole_layouts
  refine F.cal S (fun _ _ _ _ _ _ us hl => match us, hl with | [_], _ => rfl) (fun vs H Q E h => ?_) (fun cdv f A outer s H vs Q E hr h => ?_)
  · obtain ⟨i, rfl, _⟩ := h
    rfl
  · obtain ⟨i, rfl, q⟩ := h
    refine ⟨_, (pss_one (ps_ret (pe_and (pe_callB (xisi K) rfl T.isinstance bt_isinstance (pa_cons (pv 0) (pa_cons (pe_bltn (v := .ty "int") rfl T.int bt_int rfl) pa_nil))) (pe_one (pe_not (pe_callB (xisi K) rfl T.isinstance bt_isinstance (pa_cons (pv 0) (pa_cons (pe_bltn (v := .ty "bool") rfl T.bool bt_bool rfl) pa_nil)))))))), ?_⟩
    exact ⟨_, rfl, .int i, .ty "int", _, _, _, rfl, .ty _, .base (.int _), kit_ii, _, rfl, _, rfl, .int i, .ty "bool", _, _, _, rfl, .ty _, .base (.int _), kit_ib, _, rfl, q⟩
theorem ok_is_whole_numbers (F : At K mg "is_whole_numbers" "is_whole" sIsWholeN) (T : Tx K w mg) : Cal P w K mg base CX0 1 "is_whole_numbers" ["thing"] (sp_is_whole_numbers K) := by
  have S := sc_is_whole_numbers
  refine F.cal S (fun _ _ _ _ _ _ us hl => match us, hl with | [_], _ => rfl) (fun vs H Q E h => ?_) (fun cdv f A outer s H vs Q E hr h => ?_)
  · obtain ⟨i, rfl, _⟩ := h
    rfl
  · obtain ⟨i, rfl, q⟩ := h
    refine ⟨_, (pss_one (ps_ret (pe_and (pe_callB (xisi K) rfl T.isinstance bt_isinstance (pa_cons (pv 0) (pa_cons (pe_bltn (v := .ty "int") rfl T.int bt_int rfl) pa_nil))) (pe_one (pe_not (pe_callB (xisi K) rfl T.isinstance bt_isinstance (pa_cons (pv 0) (pa_cons (pe_bltn (v := .ty "bool") rfl T.bool bt_bool rfl) pa_nil)))))))), ?_⟩
    exact ⟨_, rfl, .int i, .ty "int", _, _, _, rfl, .ty _, .base (.int _), kit_ii, _, rfl, _, rfl, .int i, .ty "bool", _, _, _, rfl, .ty _, .base (.int _), kit_ib, _, rfl, q⟩
/-! ### is_point(thing, points): a number below -/
def sp_is_point (K : PySem.W.Frag) : Sp := fun vs H Q _ => ∃ p n : Nat, vs = [.int p, .int n] ∧ p < n ∧ Q (.bl true) H
theorem sc_is_point : FnScope ["thing", "points"] ["thing", "points"] (defScope sIsPoint) := ⟨rfl, rfl, rfl, by decide +kernel, rfl, by decide +kernel, by decide +kernel⟩
theorem ok_is_point (F : At K mg "is_point" "is_point" sIsPoint) (T : Tx K w mg) (G_is_whole_layouts : Cal P w K mg base CX0 1 "is_whole_layouts" ["thing"] (sp_is_whole_layouts K)) : Cal P w K mg base CX0 2 "is_point" ["thing", "points"] (sp_is_point K) := by
  have S := sc_is_point
  refine F.cal S (fun _ _ _ _ _ _ us hl => match us, hl with | [_, _], _ => rfl) (fun vs H Q E h => ?_) (fun cdv f A outer s H vs Q E hr h => ?_)
  · obtain ⟨p, n, rfl, _⟩ := h
    rfl
  · obtain ⟨p, n, rfl, hp, q⟩ := h
    refine ⟨_, (pss_one (ps_ret (pe_and (pe_cc G_is_whole_layouts (hr.mono (by decide)) (pa_cons (pv 0) pa_nil)) (pe_one (pe_chain op_le op_lt pe_int (pv 0) (pv 1)))))), ?_⟩
    refine ⟨_, rfl, _, rfl, _, rfl, iteT ⟨_, rfl, _, _, rfl, rfl, _, rfl, ifT (decide_eq_true (by omega)) ⟨_, rfl, _, _, rfl, rfl, ?_⟩⟩⟩
    have e : decide ((p : Int) < (n : Int)) = true := decide_eq_true (by omega)
    show Q (.bl (decide ((p : Int) < (n : Int)))) H
    rw [e]
    exact q
/-! ### is_below(thing, many) -/
def sp_is_below (K : PySem.W.Frag) : Sp := sp_is_point K
theorem sc_is_below : FnScope ["thing", "many"] ["thing", "many"] (defScope sIsBelow) := ⟨rfl, rfl, rfl, by decide +kernel, rfl, by decide +kernel, by decide +kernel⟩
theorem ok_is_below (F : At K mg "is_below" "is_below" sIsBelow) (T : Tx K w mg) : Cal P w K mg base CX0 1 "is_below" ["thing", "many"] (sp_is_below K) := by
  have S := sc_is_below
  refine F.cal S (fun _ _ _ _ _ _ us hl => match us, hl with | [_, _], _ => rfl) (fun vs H Q E h => ?_) (fun cdv f A outer s H vs Q E hr h => ?_)
  · obtain ⟨p, n, rfl, _⟩ := h
    rfl
  · obtain ⟨p, n, rfl, hp, q⟩ := h
    refine ⟨_, (pss_one (ps_ret (pe_and (pe_callB (xisi K) rfl T.isinstance bt_isinstance (pa_cons (pv 0) (pa_cons (pe_bltn (v := .ty "int") rfl T.int bt_int rfl) pa_nil))) (pe_and (pe_not (pe_callB (xisi K) rfl T.isinstance bt_isinstance (pa_cons (pv 0) (pa_cons (pe_bltn (v := .ty "bool") rfl T.bool bt_bool rfl) pa_nil)))) (pe_one (pe_chain op_le op_lt pe_int (pv 0) (pv 1))))))), ?_⟩
    refine ⟨_, rfl, .int p, .ty "int", _, _, _, rfl, .ty _, .base (.int _), kit_ii, _, rfl, iteT ⟨_, rfl, .int p, .ty "bool", _, _, _, rfl, .ty _, .base (.int _), kit_ib, _, rfl, _, rfl, iteT ⟨_, rfl, _, _, rfl, rfl, _, rfl, ifT (decide_eq_true (by omega)) ⟨_, rfl, _, _, rfl, rfl, ?_⟩⟩⟩⟩
    have e : decide ((p : Int) < (n : Int)) = true := decide_eq_true (by omega)
    show Q (.bl (decide ((p : Int) < (n : Int)))) H
    rw [e]
    exact q
/-! ### is_block(things, points) -/
def sp_is_block (K : PySem.W.Frag) : Sp := fun vs H Q _ => ∃ (a : Addr) (b : List Nat) (n : Nat), vs = [.ref a, .int n] ∧ SqL K H a (nv b) ∧ Base n b ∧ n ≤ 60 ∧ ∀ H', Ex H H' → Q (.bl true) H'
theorem sc_is_block : FnScope ["things", "points", "thing"] ["things", "points"] (defScope sIsBlock) := ⟨rfl, rfl, rfl, by decide +kernel, rfl, by decide +kernel, by decide +kernel⟩
theorem all_true : ∀ (l : List V), (∀ v ∈ l, v = V.bl true) → ∃ bs : List Bool, l = bs.map V.bl ∧ bs.all id = true
  | [], _ => ⟨[], rfl, rfl⟩
  | v :: l, h => by
    obtain ⟨bs, e1, e2⟩ := all_true l fun x hx => h x (List.mem_cons_of_mem _ hx)
    exact ⟨true :: bs, by rw [h v List.mem_cons_self, e1]; rfl, by rw [List.all_cons, e2]; rfl⟩
theorem paired_all {α β : Type} {R : α → β → Prop} {G : β → Prop} {l : List α} {m : List β} (h : Paired R l m) (g : ∀ a b, R a b → G b) : ∀ b ∈ m, G b := fun b hb => by
  obtain ⟨a, q⟩ := h.right b hb
  exact g a b q
open RZ in
theorem ok_is_block (F : At K mg "is_block" "is_block" sIsBlock) (T : Tx K w mg) (G_is_point : Cal P w K mg base CX0 2 "is_point" ["thing", "points"] (sp_is_point K)) : Cal P w K mg base CX0 3 "is_block" ["things", "points"] (sp_is_block K) := by
  have S := sc_is_block
  refine F.cal S (fun _ _ _ _ _ _ us hl => match us, hl with | [_, _], _ => rfl) (fun vs H Q E h => ?_) (fun cdv f A outer s H vs Q E hr h => ?_)
  · obtain ⟨a, b, n, rfl, _⟩ := h
    rfl
  · obtain ⟨a, b, n, rfl, hS, hB, hn, q⟩ := h
    have hl : (nv b).length ≤ 60 := by rw [nv_len]; exact Nat.le_trans (len_of_below hB.nd hB.bel) hn
    refine ⟨_, (pss_cons (ps_if (pt_not (pt_val (pe_callB (xall K rfl) rfl T.all bt_all (pa_cons (pe_lc (own := [("thing", 2)]) (g := gName 2) rfl S.nd (xpi_list K (pv 0)) (blkOk_by (by kernel_rfl)) (fun _ _ _ _ _ => (pg_name (i := 2) S.nd rfl (by first | exact Or.inl rfl | exact Or.inr rfl))) (fun _ _ _ _ _ => pts_nil) (fun _ _ _ _ _ => (pe_cc G_is_point (hr.mono (by decide)) (pa_cons (pv 2) (pa_cons (pv 1) pa_nil))))) pa_nil))))
      (pss_one (ps_ret pe_bl))
      pss_nil)
      (pss_one (ps_ret (pe_cmpR (op_eq) (pe_lenSetI rfl T.len rfl T.set (pv 0)) (pe_callB (xlen_seq K) rfl T.len bt_len (pa_cons (pv 0) pa_nil)) (nomark _))))), ?_⟩
    refine ⟨_, rfl, a, rfl, ⟨_, hS⟩, fun D hD => cl_list hS (fun _ => true) (fun _ v _ => v = .bl true) hD (by omega) (fun _ => rfl) (fun _ _ _ _ h _ => h) (fun i H2 _ _ Q q => q H2 (Ex.refl H2)) (fun i H2 acc hi _ e2 _ Q q => ?_) (fun H' out e1 hD' hp => ?_)⟩
    · obtain ⟨p, _, hp, _, e⟩ := nv_getD hi
      refine ⟨_, rfl, _, rfl, p, n, (by rw [e]; rfl), hB.bel p hp, q _ H2 (Ex.refl _) rfl⟩
    · obtain ⟨bs, rfl, ha⟩ := all_true out (paired_all hp fun _ _ h => h)
      refine ⟨D, bs, rfl, .inl (.inl hD'), _, rfl, ?_⟩
      rw [ha]
      refine iteF ?_
      have hS' := ex_l e1 hS
      refine ⟨_, rfl, a, _, rfl, by rw [← nv_ints]; exact hS', ?_, ?_, _, rfl, a, _, rfl, .inl hS', rfl, ?_⟩
      · exact List.pairwise_map.mpr (hB.nd.imp fun q e => q (by omega))
      · rw [List.length_map]
        have := nv_len b
        omega
      · rw [List.length_map, nv_len]
        have e : decide (V.int ((b.length : Nat) : Int) = V.int ((b.length : Nat) : Int)) = true := decide_eq_true rfl
        show Q (.bl (decide (V.int ((b.length : Nat) : Int) = V.int ((b.length : Nat) : Int)))) H'
        rw [e]
        exact q H' e1
end
end EM
set_option Elab.async false
set_option linter.all false
set_option maxRecDepth 100000
set_option maxHeartbeats 2000000
namespace EM
open PySem PySem.Spec PyProof.Rows L2 Evl
section
variable {P : Program} {w : World} {K : PySem.W.Frag} {mg : Str → Option Value} {base : Heap}
/-! ### layout_of(points, blocks) -/
def LLs (K : PySem.W.Frag) (H : Hp) (bs : List (List Nat)) (v : V) : Prop := ∃ a vs, v = .ref a ∧ SqL K H a vs ∧ Paired (LI K H) bs vs
theorem LI.ex {H H' : Hp} {b : List Nat} {v : V} (h : LI K H b v) (e : Ex H H') : LI K H' b v := by
  obtain ⟨a, q, r⟩ := h
  exact ⟨a, q, ex_l e r⟩
theorem LLs.ex {H H' : Hp} {b : List (List Nat)} {v : V} (h : LLs K H b v) (e : Ex H H') : LLs K H' b v := by
  obtain ⟨a, vs, q, r, p⟩ := h
  exact ⟨a, vs, q, ex_l e r, p.mono fun _ _ x => x.ex e⟩
def sp_layout_of (K : PySem.W.Frag) : Sp := fun vs H Q _ => ∃ (n : Nat) (bs : List (List Nat)) (x : V), vs = [.int n, x] ∧ LLs K H bs x ∧ 1 ≤ n ∧ n ≤ 60 ∧ bs.length ≤ 60 ∧ (∀ b ∈ bs, Base n b) ∧ ∀ v H', Ex H H' → LY K H' (n, bs.map sortN) v → Q v H'
theorem sc_layout_of : FnScope ["points", "blocks", "place", "block"] ["points", "blocks"] (defScope sLayoutOf) := ⟨rfl, rfl, rfl, by decide +kernel, rfl, by decide +kernel, by decide +kernel⟩
theorem ok_layout_of (F : At K mg "layout_of" "layout_of" sLayoutOf) (T : Tx K w mg) (G_is_whole_layouts : Cal P w K mg base CX0 1 "is_whole_layouts" ["thing"] (sp_is_whole_layouts K)) (G_is_block : Cal P w K mg base CX0 3 "is_block" ["things", "points"] (sp_is_block K)) : Cal P w K mg base CX0 4 "layout_of" ["points", "blocks"] (sp_layout_of K) := by
  have S := sc_layout_of
  refine F.cal S (fun _ _ _ _ _ _ us hl => match us, hl with | [_, _], _ => rfl) (fun vs H Q E h => ?_) (fun cdv f A outer s H vs Q E hr h => ?_)
  · obtain ⟨n, bs, x, rfl, _⟩ := h
    rfl
  · obtain ⟨n, bs, x, rfl, hL, h1, h2, h3, hB, q⟩ := h
    obtain ⟨a, us, rfl, hS, hP⟩ := hL
    have hl : us.length = bs.length := hP.length.symm
    refine ⟨_, (pss_cons (ps_if (PW.pt (pw_or (pt_not (pt_val (pe_cc G_is_whole_layouts (hr.mono (by decide)) (pa_cons (pv 0) pa_nil)))) (pw_or (pt_not (pt_chain op_le op_le pe_int (pv 0) (pe_gint T.MOST_POINTS_layouts))) (pw_or1 (pt_cmpR (op_gt) (pe_callB (xlen_seq K) rfl T.len bt_len (pa_cons (pv 1) pa_nil)) (pe_gint T.MOST_BLOCKS) (nomark _))))))
      (pss_one ps_never)
      pss_nil)
      (pss_cons (ps_for PassesOwn.never rfl (pi_range1 rfl T.range (pa_cons (pe_callB (xlen_seq K) rfl T.len bt_len (pa_cons (pv 1) pa_nil)) pa_nil)) (pg_name (i := 2) S.nd rfl (by first | exact Or.inl rfl | exact Or.inr rfl))
      (pss_one (ps_if (pt_not (pt_val (pe_cc G_is_block (hr.mono (by decide)) (pa_cons (pe_ix (xix_list K) (pv 1) (pv 2) (fun _ _ => rfl)) (pa_cons (pv 0) pa_nil)))))
      (pss_one ps_never)
      pss_nil)))
      (pss_one (ps_ret (pe_tup (pa_cons (pv 0) (pa_cons (pe_callTy (xtuple_of K) rfl T.tuple bt_tuple (pa_cons (pe_lc (own := [("block", 3)]) (g := gName 3) rfl S.nd (xpi_list K (pv 1)) (blkOk_by (by kernel_rfl)) (fun _ _ _ _ _ => (pg_name (i := 3) S.nd rfl (by first | exact Or.inl rfl | exact Or.inr rfl))) (fun _ _ _ _ _ => pts_nil) (fun _ _ _ _ _ => (pe_callTy (xtuple_of K) rfl T.tuple bt_tuple (pa_cons (pe_callB (xsortedI K) rfl T.sorted bt_sorted (pa_cons (pv 3) pa_nil)) pa_nil)))) pa_nil)) pa_nil))))))), ?_⟩
    refine ⟨_, rfl, n, rfl, _, rfl, iteF ?_⟩
    refine ⟨_, rfl, _, _, rfl, rfl, _, rfl, ifT (decide_eq_true (by omega)) ⟨_, _, rfl, rfl, _, rfl, ifF (by rw [decide_eq_true (by omega)]; rfl) ⟨_, rfl, a, us, rfl, .inl hS, _, _, rfl, rfl, _, rfl, ifF (decide_eq_false (by omega)) ?_⟩⟩⟩
    refine ⟨_, rfl, a, us, rfl, .inl hS, (us.length : Int), rfl, by omega, by omega, fr_range (n := us.length) (fun i σ H' => ∃ y, σ = [some (.int n), some (.ref a), y, none] ∧ Ex H H') ⟨_, rfl, Ex.refl H⟩ ?_ ?_⟩
    · rintro i σ H' hi ⟨y, rfl, e⟩
      obtain ⟨⟨c, hc, hcS⟩, hm, _⟩ := paired_at hP hi [] .non
      refine ⟨_, rfl, _, rfl, a, us, (i : Int), us.getD i .non, rfl, rfl, ex_l e hS, atI_nat (by simp [List.getD_eq_getElem?_getD, hi]), _, rfl, c, bs.getD i [], n, by rw [hc]; rfl, ex_l e hcS, hB _ hm, h2, fun H2 e2 => ⟨true, rfl, iteF ?_⟩⟩
      exact ⟨_, rfl, e.trans e2⟩
    · rintro σ H1 ⟨y, rfl, e1⟩
      have hS1 := ex_l e1 hS
      refine ⟨_, rfl, _, rfl, a, rfl, ⟨_, hS1⟩, fun D hD => cl_list hS1 (fun _ => true) (fun i v H' => TI K H' (sortN (bs.getD i [])) v) hD (by omega) (fun _ => rfl) (fun _ _ _ _ h k => h.tk k.tk) (fun i H2 _ _ Q q => q H2 (Ex.refl H2)) (fun i H2 acc hi _ e2 _ Q q => ?_) (fun H' out e2 hD' hp => ?_)⟩
      · obtain ⟨⟨c, hc, hcS⟩, hm, _⟩ := paired_at hP hi [] .non
        refine ⟨_, rfl, c, (bs.getD i []).map fun (p : Nat) => (p : Int), by rw [hc], by rw [← nv_ints]; exact ex_l (e1.trans e2) hcS, fun ns p hp hs hn => ?_⟩
        refine ⟨p, _, rfl, .inl ⟨.inl (.inl upd_same), fun t ht => ?_⟩⟩
        refine q _ _ ((Ex.new hn).trans (Ex.new ht)) ⟨t, rfl, ?_⟩
        rw [nv_ints, ← sort_ints hp hs]
        exact .inl (.inl upd_same)
      · have hp2 : Paired (TI K H') (bs.map sortN) out := by
          refine paired_mapl ?_
          rw [hl] at hp
          exact paired_range (d := []) hp
        refine ⟨D, out, rfl, .inl ⟨.inl (.inl hD'), fun t ht => ⟨by show 2 ≤ sizeLine; decide, fun p hp' => ?_⟩⟩⟩
        have e3 : Ex H' (upd H' t (.tup out)) := Ex.new ht
        have e4 := Ex.new hp' (o := .tup [.int n, .ref t])
        refine q _ _ (((e1.trans e2).trans e3).trans e4) ⟨p, _, rfl, .inl (.inl upd_same), t, out, rfl, ex_t e4 (.inl (.inl upd_same)), paired_ti hp2 (tk_of (e3.trans e4))⟩
end
end EM
set_option Elab.async false
set_option linter.all false
set_option maxRecDepth 100000
set_option maxHeartbeats 2000000
namespace EM
open PySem PySem.Spec PyProof.Rows L2 Evl
section
variable {P : Program} {w : World} {K : PySem.W.Frag} {mg : Str → Option Value} {base : Heap}
/-! ### check_bases(n, bases): lets them pass -/
def sp_check_bases (K : PySem.W.Frag) : Sp := fun vs H Q _ => ∃ (n : Nat) (bs : List (List Nat)) (x : V), vs = [.int n, x] ∧ LLs K H bs x ∧ 1 ≤ n ∧ n ≤ 20 ∧ bs.length ≤ 3 ∧ (∀ b ∈ bs, Base n b) ∧ ∀ H', Ex H H' → Q .non H'
theorem sc_check_bases : FnScope ["n", "bases", "place"] ["n", "bases"] (defScope sCheckBases) := ⟨rfl, rfl, rfl, by decide +kernel, rfl, by decide +kernel, by decide +kernel⟩
theorem ok_check_bases (F : At K mg "check_bases" "check_bases" sCheckBases) (T : Tx K w mg) (G_is_whole_numbers : Cal P w K mg base CX0 1 "is_whole_numbers" ["thing"] (sp_is_whole_numbers K)) (G_is_block : Cal P w K mg base CX0 3 "is_block" ["things", "points"] (sp_is_block K)) : Cal P w K mg base CX0 4 "check_bases" ["n", "bases"] (sp_check_bases K) := by
  have S := sc_check_bases
  refine F.cal S (fun _ _ _ _ _ _ us hl => match us, hl with | [_, _], _ => rfl) (fun vs H Q E h => ?_) (fun cdv f A outer s H vs Q E hr h => ?_)
  · obtain ⟨n, bs, x, rfl, _⟩ := h
    rfl
  · obtain ⟨n, bs, x, rfl, hL, h1, h2, h3, hB, q⟩ := h
    obtain ⟨a, us, rfl, hS, hP⟩ := hL
    have hl : us.length = bs.length := hP.length.symm
    refine ⟨_, (pss_cons (ps_if (PW.pt (pw_or (pt_not (pt_val (pe_cc G_is_whole_numbers (hr.mono (by decide)) (pa_cons (pv 0) pa_nil)))) (pw_or (pt_not (pt_chain op_le op_le pe_int (pv 0) (pe_gint T.MOST_POINTS_layouts))) (pw_or1 (pt_cmpR (op_gt) (pe_op (op_mul) (pv 0) (pe_callB (xlen_seq K) rfl T.len bt_len (pa_cons (pv 1) pa_nil))) (pe_gint T.MOST_BLOCKS) (nomark _))))))
      (pss_one ps_never)
      pss_nil)
      (pss_one (ps_for PassesOwn.never rfl (pi_range1 rfl T.range (pa_cons (pe_callB (xlen_seq K) rfl T.len bt_len (pa_cons (pv 1) pa_nil)) pa_nil)) (pg_name (i := 2) S.nd rfl (by first | exact Or.inl rfl | exact Or.inr rfl))
      (pss_one (ps_if (pt_not (pt_val (pe_cc G_is_block (hr.mono (by decide)) (pa_cons (pe_ix (xix_list K) (pv 1) (pv 2) (fun _ _ => rfl)) (pa_cons (pv 0) pa_nil)))))
      (pss_one ps_never)
      pss_nil))))), ?_⟩
    refine ⟨_, rfl, n, rfl, _, rfl, iteF ?_⟩
    refine ⟨_, rfl, _, _, rfl, rfl, _, rfl, ifT (decide_eq_true (by omega)) ⟨_, _, rfl, rfl, _, rfl, ifF (by rw [decide_eq_true (by omega)]; rfl) ⟨_, rfl, _, rfl, a, us, rfl, .inl hS, _, _, rfl, rfl, .inl (by omega), _, _, rfl, rfl, _, rfl, ifF (decide_eq_false ?_) ?_⟩⟩⟩
    · have hm : (n : Int) * (us.length : Int) ≤ 20 * 3 := by
        have e : n * us.length ≤ 20 * 3 := Nat.mul_le_mul h2 (by omega)
        exact_mod_cast e
      omega
    refine ⟨_, rfl, a, us, rfl, .inl hS, (us.length : Int), rfl, by omega, by omega, fr_range (n := us.length) (fun i σ H' => ∃ y, σ = [some (.int n), some (.ref a), y] ∧ Ex H H') ⟨_, rfl, Ex.refl H⟩ ?_ ?_⟩
    · rintro i σ H' hi ⟨y, rfl, e⟩
      obtain ⟨⟨c, hc, hcS⟩, hm, _⟩ := paired_at hP hi [] .non
      refine ⟨_, rfl, _, rfl, a, us, (i : Int), us.getD i .non, rfl, rfl, ex_l e hS, atI_nat (by simp [List.getD_eq_getElem?_getD, hi]), _, rfl, c, bs.getD i [], n, by rw [hc]; rfl, ex_l e hcS, hB _ hm, by omega, fun H2 e2 => ⟨true, rfl, iteF ?_⟩⟩
      exact ⟨_, rfl, e.trans e2⟩
    · rintro σ H1 ⟨y, rfl, e1⟩
      exact q H1 e1
/-! ### turned(block, by, n) -/
def sp_turned (K : PySem.W.Frag) : Sp := fun vs H Q _ => ∃ (b : List Nat) (t n : Nat) (x : V), vs = [x, .int t, .int n] ∧ LI K H b x ∧ 0 < n ∧ b.length ≤ 60 ∧ ∀ v H', Ex H H' → TI K H' (turnF n t b) v → Q v H'
theorem sc_turned : FnScope ["block", "by", "n", "point"] ["block", "by", "n"] (defScope sTurned) := ⟨rfl, rfl, rfl, by decide +kernel, rfl, by decide +kernel, by decide +kernel⟩
theorem ok_turned (F : At K mg "turned" "turned" sTurned) (T : Tx K w mg) : Cal P w K mg base CX0 1 "turned" ["block", "by", "n"] (sp_turned K) := by
  have S := sc_turned
  refine F.cal S (fun _ _ _ _ _ _ us hl => match us, hl with | [_, _, _], _ => rfl) (fun vs H Q E h => ?_) (fun cdv f A outer s H vs Q E hr h => ?_)
  · obtain ⟨b, t, n, x, rfl, _⟩ := h
    rfl
  · obtain ⟨b, t, n, x, rfl, hL, h0, hl, q⟩ := h
    obtain ⟨a, rfl, hS⟩ := hL
    refine ⟨_, (pss_one (ps_ret (pe_callTy (xtuple_of K) rfl T.tuple bt_tuple (pa_cons (pe_callB (xsortedI K) rfl T.sorted bt_sorted (pa_cons (pe_lc (own := [("point", 3)]) (g := gName 3) rfl S.nd (xpi_list K (pv 0)) (blkOk_by (by kernel_rfl)) (fun _ _ _ _ _ => (pg_name (i := 3) S.nd rfl (by first | exact Or.inl rfl | exact Or.inr rfl))) (fun _ _ _ _ _ => pts_nil) (fun _ _ _ _ _ => (pe_op (op_modN) (pe_op (op_add) (pv 3) (pv 1)) (pv 2)))) pa_nil)) pa_nil)))), ?_⟩
    refine ⟨_, rfl, a, rfl, ⟨_, hS⟩, fun D hD => cl_list hS (fun _ => true) (fun i v _ => v = .int (((b.getD i 0 + t) % n : Nat) : Int)) hD (by rw [nv_len]; omega) (fun _ => rfl) (fun _ _ _ _ h _ => h) (fun i H2 _ _ Q q => q H2 (Ex.refl H2)) (fun i H2 acc hi _ e2 _ Q q => ?_) (fun H' out e2 hD' hp => ?_)⟩
    · obtain ⟨p, _, _, h4, h5⟩ := nv_getD hi
      refine ⟨_, rfl, _, rfl, (p : Int), (t : Int), by rw [h5], rfl, _, rfl, _, _, rfl, rfl, by omega, q _ H2 (Ex.refl H2) ?_⟩
      rw [h4]
      exact congrArg V.int (fmodN (p + t) n)
    · have e : out = nv (b.map fun p => (p + t) % n) := by
        rw [paired_eq hp, kept_all, nv_len]
        unfold nv
        rw [List.map_map]
        have e2 := kept_map (p := fun _ => true) (d := 0) b
        rw [kept_all, List.filter_eq_self.mpr fun _ _ => rfl] at e2
        conv => rhs; rw [← e2]
        rw [List.map_map]
        rfl
      subst e
      refine ⟨D, _, rfl, by rw [← nv_ints]; exact .inl (.inl hD'), fun ns p hp hs hn => ?_⟩
      refine ⟨p, _, rfl, .inl ⟨.inl (.inl upd_same), fun t' ht => ?_⟩⟩
      refine q _ _ ((e2.trans (Ex.new hn)).trans (Ex.new ht)) ⟨t', rfl, ?_⟩
      have e3 := sort_ints hp hs
      unfold turnF
      rw [nv_ints, ← e3]
      exact .inl (.inl upd_same)
/-! ### developed(n, bases) -/
def sp_developed (K : PySem.W.Frag) : Sp := fun vs H Q _ => ∃ (n : Nat) (bs : List (List Nat)) (x : V), vs = [.int n, x] ∧ LLs K H bs x ∧ 1 ≤ n ∧ n ≤ 20 ∧ bs.length ≤ 3 ∧ (∀ b ∈ bs, Base n b) ∧ ∀ v H', Ex H H' → LY K H' (devF n bs) v → Q v H'
theorem sc_developed : FnScope ["n", "bases", "blocks", "base", "by"] ["n", "bases"] (defScope sDeveloped) := ⟨rfl, rfl, rfl, by decide +kernel, rfl, by decide +kernel, by decide +kernel⟩
def devN (n : Nat) (b : List Nat) : List (List Nat) := (List.range n).map fun t => turnF n t b
theorem ok_developed (F : At K mg "developed" "developed" sDeveloped) (T : Tx K w mg) (G_check_bases : Cal P w K mg base CX0 4 "check_bases" ["n", "bases"] (sp_check_bases K)) (G_turned : Cal P w K mg base CX0 1 "turned" ["block", "by", "n"] (sp_turned K)) : Cal P w K mg base CX0 5 "developed" ["n", "bases"] (sp_developed K) := by
  have S := sc_developed
  refine F.cal S (fun _ _ _ _ _ _ us hl => match us, hl with | [_, _], _ => rfl) (fun vs H Q E h => ?_) (fun cdv f A outer s H vs Q E hr h => ?_)
  · obtain ⟨n, bs, x, rfl, _⟩ := h
    rfl
  · obtain ⟨n, bs, x, rfl, hL, h1, h2, h3, hB, q⟩ := h
    have hL0 := hL
    obtain ⟨a, us, rfl, hS, hP⟩ := hL
    have hl : us.length = bs.length := hP.length.symm
    refine ⟨_, (pss_cons (ps_expr (pe_cc G_check_bases (hr.mono (by decide)) (pa_cons (pv 0) (pa_cons (pv 1) pa_nil))))
      (pss_cons (ps_set (i := 2) S.nd rfl (by first | exact Or.inl rfl | exact Or.inr rfl) (pe_lst pa_nil))
      (pss_cons (ps_for PassesOwn.never rfl (xpi_list K (pv 1)) (pg_name (i := 3) S.nd rfl (by first | exact Or.inl rfl | exact Or.inr rfl))
      (pss_one (ps_expr (xpe_bm K PySem.F.plainAttrs_list PySem.F.slot_list_extend PySem.F.type_list_extend mt_extend (pv 2) (pa_cons (pe_lc (own := [("by", 4)]) (g := gName 4) rfl S.nd (pi_range1 rfl T.range (pa_cons (pv 0) pa_nil)) (blkOk_by (by kernel_rfl)) (fun _ _ _ _ _ => (pg_name (i := 4) S.nd rfl (by first | exact Or.inl rfl | exact Or.inr rfl))) (fun _ _ _ _ _ => pts_nil) (fun _ _ _ _ _ => (pe_cc G_turned (hr.mono (by decide)) (pa_cons (pv 3) (pa_cons (pv 4) (pa_cons (pv 0) pa_nil)))))) pa_nil)))))
      (pss_one (ps_ret (pe_tup (pa_cons (pv 0) (pa_cons (pe_callTy (xtuple_of K) rfl T.tuple bt_tuple (pa_cons (pv 2) pa_nil)) pa_nil)))))))), ?_⟩
    refine ⟨_, rfl, _, rfl, n, bs, _, rfl, hL0, h1, h2, h3, hB, fun H1 e1 => ?_⟩
    refine ⟨Nat.zero_le _, fun l hl0 => ?_⟩
    have hS1 := ex_l (e1.trans (Ex.new hl0 (o := .lst []))) hS
    have hlH : H l = none := fresh_back e1 hl0
    have f1 : ∀ m : Nat, m ≤ bs.length → ((bs.take m).flatMap (devN n)).length ≤ 60 := fun m hm => by
      have q := (dev_ok h1 h2 (by rw [List.length_take]; omega) (bs := bs.take m) fun b hb => hB b (List.mem_of_mem_take hb)).many
      exact q
    refine ⟨_, rfl, a, rfl, ⟨_, hS1⟩, fr_list (xs := us) (fun i σ H' => ∃ y, σ = [some (.int n), some (.ref a), some (.ref l), y, none] ∧ Ex H H' ∧ ∃ vs, H' l = some (.lst vs) ∧ Paired (TI K H') ((bs.take i).flatMap (devN n)) vs)
      ⟨_, rfl, e1.trans (Ex.new hl0), [], upd_same, .nil⟩ (fun i σ H' _ ⟨_, _, e, _⟩ => ex_l e hS) ?_ ?_⟩
    · rintro i σ H' hi ⟨y, rfl, e, vs, hv, hp⟩
      obtain ⟨⟨c, hc, hcS⟩, hm, hib⟩ := paired_at hP hi [] .non
      refine ⟨_, rfl, .inl ⟨rfl, _, .inl (.inl hv)⟩, _, rfl, (n : Int), rfl, by omega, by omega, fun D hD => cl_range (n := n) (fun _ => true) (fun i' v H' => TI K H' (turnF n i' (bs.getD i [])) v) hD (by omega) (fun _ => rfl) (fun _ _ _ _ h k => h.tk k.tk) (fun i H2 _ _ Q q => q H2 (Ex.refl H2)) (fun t H2 acc hi _ e2 _ Q q => ?_) (fun H2 out e2 hD' hq => ?_)⟩
      · refine ⟨_, rfl, _, rfl, _, rfl, bs.getD i [], t, n, us.getD i .non, rfl, ⟨c, hc, ex_l (e.trans e2) hcS⟩, by omega, ?_, q⟩
        have := len_of_below (hB _ hm).nd (hB _ hm).bel
        omega
      · have hv2 := e2 _ _ hv
        have nl : D ≠ l := fun z => by
          rw [z, hv] at hD
          cases hD
        have hq2 : Paired (TI K H2) (devN n (bs.getD i [])) out := by
          rw [kept_all] at hq
          exact paired_mapl hq
        have et : (bs.take (i + 1)).flatMap (devN n) = (bs.take i).flatMap (devN n) ++ devN n (bs.getD i []) := by
          rw [List.take_add_one, List.getElem?_eq_getElem hib, List.flatMap_append]
          simp [List.getD_eq_getElem?_getD, hib]
        have l1 := hp.length
        have l2 := hq2.length
        have l3 := f1 (i + 1) (by omega)
        rw [et, List.length_append] at l3
        refine ⟨l, D, vs, out, rfl, rfl, hv2, hD', len_nat (by omega), _, rfl, Ex.mut (e.trans e2) hlH, vs ++ out, upd_same, ?_⟩
        rw [et]
        exact paired_append (paired_ti (paired_ti hp (tk_of e2)) (tk_lst hv2)) (paired_ti hq2 (tk_lst hv2))
    · rintro σ H' ⟨y, rfl, e, vs, hv, hp⟩
      rw [hl, List.take_length] at hp
      refine ⟨_, rfl, _, rfl, l, vs, rfl, .inl ⟨.inl (.inl hv), fun t ht => ⟨by show 2 ≤ sizeLine; decide, fun p hp' => ?_⟩⟩⟩
      have e3 : Ex H' (upd H' t (.tup vs)) := Ex.new ht
      have e4 := Ex.new hp' (o := .tup [.int n, .ref t])
      refine q _ _ ((e.trans e3).trans e4) ⟨p, _, rfl, .inl (.inl upd_same), t, vs, rfl, ex_t e4 (.inl (.inl upd_same)), paired_ti hp (tk_of (e3.trans e4))⟩
end
end EM
set_option Elab.async false
set_option linter.all false
set_option maxRecDepth 100000
set_option maxHeartbeats 2000000
namespace EM
open PySem PySem.Spec PyProof.Rows L2 Evl
section
variable {P : Program} {w : World} {K : PySem.W.Frag} {mg : Str → Option Value} {base : Heap}
theorem hu65 {A : Around} {k : Nat} (hr : Room k A) : A.units + 65 < cLine := by
  have := hr.un
  omega
theorem inV_nv (p : Nat) : ∀ b : List Nat, inV (.int (p : Int)) (nv b) = b.contains p
  | [] => rfl
  | x :: b => by
    have ih := inV_nv p b
    show (eqV (.int (x : Int)) (.int (p : Int)) || inV (.int (p : Int)) (nv b)) = (x :: b).contains p
    rw [ih, List.contains_cons]
    have e : eqV (.int (x : Int)) (.int (p : Int)) = (p == x) := by
      show ((x : Int) == (p : Int)) = (p == x)
      by_cases h : x = p
      · subst h
        simp
      · have h1 : ¬ (x : Int) = (p : Int) := by omega
        have h2 : ¬ p = x := fun z => h z.symm
        rw [beq_eq_false_iff_ne.mpr h1, beq_eq_false_iff_ne.mpr h2]
    rw [e]
/-! ### complement(layout) -/
def sp_complement (K : PySem.W.Frag) : Sp := fun vs H Q _ => ∃ (l : Lay) (x : V), vs = [x] ∧ LY K H l x ∧ LOk l ∧ ∀ v H', Ex H H' → LY K H' (compF l) v → Q v H'
theorem sc_complement : FnScope ["layout", "blocks", "point", "block"] ["layout"] (defScope sComplement) := ⟨rfl, rfl, rfl, by decide +kernel, rfl, by decide +kernel, by decide +kernel⟩
theorem ok_complement (F : At K mg "complement" "complement" sComplement) (T : Tx K w mg) : Cal P w K mg base CX0 1 "complement" ["layout"] (sp_complement K) := by
  have S := sc_complement
  refine F.cal S (fun _ _ _ _ _ _ us hl => match us, hl with | [_], _ => rfl) (fun vs H Q E h => ?_) (fun cdv f A outer s H vs Q E hr h => ?_)
  · obtain ⟨l, x, rfl, _⟩ := h
    rfl
  · obtain ⟨l, x, rfl, hL, hO, q⟩ := h
    obtain ⟨a, b, rfl, hS, c, us, rfl, hC, hP⟩ := hL
    have hm := hO.many
    have hn := hO.most
    have hl : us.length = l.2.length := hP.length.symm
    refine ⟨_, (pss_cons (ps_setLc (i := 1) (own := [("block", 3)]) (g := gName 3) rfl S.nd rfl rfl (sw_true rfl rfl rfl (by decide +kernel)) (xpi_tup K (pe_ix (xix_tup K) (pv 0) pe_int (fun _ _ => rfl))) (blkOk_by (by kernel_rfl)) (fun _ _ _ _ _ => (pg_name (i := 3) S.nd rfl (by first | exact Or.inl rfl | exact Or.inr rfl))) (fun _ _ _ _ _ => pts_nil) (fun _ _ _ _ _ => (pe_callTy (xtuple_of K) rfl T.tuple bt_tuple (pa_cons (pe_lc (own := [("point", 2)]) (g := gName 2) rfl S.nd (pi_range1 rfl T.range (pa_cons (pe_ix (xix_tup K) (pv 0) pe_int (fun _ _ => rfl)) pa_nil)) (blkOk_by (by kernel_rfl)) (fun _ _ _ _ _ => (pg_name (i := 2) S.nd rfl (by first | exact Or.inl rfl | exact Or.inr rfl))) (fun _ _ _ _ _ => (pts_one (pt_cmpR (xop_notIn K) (pv 2) (pv 3) rfl))) (fun _ _ _ _ _ => (pv 2))) pa_nil))))
      (pss_one (ps_ret (pe_tup (pa_cons (pe_ix (xix_tup K) (pv 0) pe_int (fun _ _ => rfl)) (pa_cons (pe_callTy (xtuple_of K) rfl T.tuple bt_tuple (pa_cons (pv 1) pa_nil)) pa_nil)))))), ?_⟩
    refine ⟨_, rfl, a, _, 1, _, rfl, rfl, hS, atI_nat (j := 1) rfl, c, rfl, ⟨_, hC⟩, fun D hD => cl_tup hC (fun _ => true) (fun i v H' => TI K H' ((List.range l.1).filter fun p => !(l.2.getD i []).contains p) v) hD (by omega) (fun _ => rfl) (fun _ _ _ _ h k => h.tk k.tk) (fun i H2 _ _ Q q => q H2 (Ex.refl H2)) (fun i H2 acc hi _ e2 _ Q q => ?_) (fun H' out e2 hD' hp => ?_)⟩
    · obtain ⟨⟨d, hd, hdS⟩, _, _⟩ := paired_at hP hi [] .non
      refine ⟨_, rfl, a, _, 0, _, rfl, rfl, ex_t e2 hS, atI_nat (j := 0) rfl, (l.1 : Int), rfl, by omega, by omega, fun D2 hD2 => cl_range (n := l.1) (fun p => !(l.2.getD i []).contains p) (fun i' v _ => v = .int (i' : Int)) hD2 (by omega) (fun _ => rfl) (fun _ _ _ _ h _ => h) (fun p H3 hp e3 Q q => ?_) (fun p H3 _ _ _ e3 _ Q q => ⟨_, rfl, q _ H3 (Ex.refl H3) rfl⟩) (fun H3 out e3 hD3 hp => ?_)⟩
      · refine ⟨_, rfl, _, rfl, d, nv (l.2.getD i []), by rw [hd], .inr (ex_t (e2.trans e3) hdS), rfl, nv_flat _, _, rfl, ?_⟩
        rw [inV_nv]
        exact q H3 (Ex.refl H3)
      · refine ⟨D2, out, rfl, .inl ⟨.inl (.inl hD3), fun t ht => ?_⟩⟩
        refine q _ _ (e3.trans (Ex.new ht)) ⟨t, rfl, ?_⟩
        have e : out = nv ((List.range l.1).filter fun p => !(l.2.getD i []).contains p) := paired_eq hp
        rw [← e]
        exact .inl (.inl upd_same)
    · have hp2 : Paired (TI K H') (compF l).2 out := by
        refine paired_mapl ?_
        rw [hl] at hp
        exact paired_range (d := []) hp
      refine ⟨_, rfl, a, _, 0, _, rfl, rfl, ex_t e2 hS, atI_nat (j := 0) rfl, _, rfl, D, out, rfl, .inl ⟨.inl (.inl hD'), fun t ht => ⟨by show 2 ≤ sizeLine; decide, fun p hp' => ?_⟩⟩⟩
      have e3 : Ex H' (upd H' t (.tup out)) := Ex.new ht
      have e4 := Ex.new hp' (o := .tup [.int l.1, .ref t])
      exact q _ _ ((e2.trans e3).trans e4) ⟨p, _, rfl, .inl (.inl upd_same), t, out, rfl, ex_t e4 (.inl (.inl upd_same)), paired_ti hp2 (tk_of (e3.trans e4))⟩
/-! ### dual(layout) -/
def sp_dual (K : PySem.W.Frag) : Sp := fun vs H Q _ => ∃ (l : Lay) (x : V), vs = [x] ∧ LY K H l x ∧ LOk l ∧ 0 < l.2.length ∧ ∀ v H', Ex H H' → LY K H' (dualF l) v → Q v H'
theorem sc_dual : FnScope ["layout", "many", "blocks", "point", "k"] ["layout"] (defScope sDual) := ⟨rfl, rfl, rfl, by decide +kernel, rfl, by decide +kernel, by decide +kernel⟩
def dualB (l : Lay) (p : Nat) : List Nat := (List.range l.2.length).filter fun k => (l.2.getD k []).contains p
theorem ok_dual (F : At K mg "dual" "dual" sDual) (T : Tx K w mg) : Cal P w K mg base CX0 1 "dual" ["layout"] (sp_dual K) := by
  have S := sc_dual
  refine F.cal S (fun _ _ _ _ _ _ us hl => match us, hl with | [_], _ => rfl) (fun vs H Q E h => ?_) (fun cdv f A outer s H vs Q E hr h => ?_)
  · obtain ⟨l, x, rfl, _⟩ := h
    rfl
  · obtain ⟨l, x, rfl, hL, hO, h0, q⟩ := h
    obtain ⟨a, b, rfl, hS, c, us, rfl, hC, hP⟩ := hL
    have hm := hO.many
    have hn := hO.most
    have hl : us.length = l.2.length := hP.length.symm
    refine ⟨_, (pss_cons (ps_set (i := 1) S.nd rfl (by first | exact Or.inl rfl | exact Or.inr rfl) (pe_callB (xlen_seq K) rfl T.len bt_len (pa_cons (pe_ix (xix_tup K) (pv 0) pe_int (fun _ _ => rfl)) pa_nil)))
      (pss_cons (ps_if (PW.pt (pw_or (pt_cmpR (op_eq) (pv 1) pe_int (nomark _)) (pw_or1 (pt_cmpR (op_gt) (pv 1) (pe_gint T.MOST_POINTS_layouts) (nomark _)))))
      (pss_one ps_never)
      pss_nil)
      (pss_cons (ps_set (i := 2) S.nd rfl (by first | exact Or.inl rfl | exact Or.inr rfl) (pe_lst pa_nil))
      (pss_cons (ps_for PassesOwn.never rfl (pi_range1 rfl T.range (pa_cons (pe_ix (xix_tup K) (pv 0) pe_int (fun _ _ => rfl)) pa_nil)) (pg_name (i := 3) S.nd rfl (by first | exact Or.inl rfl | exact Or.inr rfl))
      (pss_one (ps_expr (xpe_bm K PySem.F.plainAttrs_list PySem.F.slot_list_append PySem.F.type_list_append mt_append (pv 2) (pa_cons (pe_callTy (xtuple_of K) rfl T.tuple bt_tuple (pa_cons (pe_lc (own := [("k", 4)]) (g := gName 4) rfl S.nd (pi_range1 rfl T.range (pa_cons (pv 1) pa_nil)) (blkOk_by (by kernel_rfl)) (fun _ _ _ _ _ => (pg_name (i := 4) S.nd rfl (by first | exact Or.inl rfl | exact Or.inr rfl))) (fun _ _ _ _ _ => (pts_one (pt_cmpR (xop_in K) (pv 3) (pe_ix (xix_tup K) (pe_ix (xix_tup K) (pv 0) pe_int (fun _ _ => rfl)) (pv 4) (fun _ _ => rfl)) rfl))) (fun _ _ _ _ _ => (pv 4))) pa_nil)) pa_nil)))))
      (pss_one (ps_ret (pe_tup (pa_cons (pv 1) (pa_cons (pe_callTy (xtuple_of K) rfl T.tuple bt_tuple (pa_cons (pv 2) pa_nil)) pa_nil))))))))), ?_⟩
    refine ⟨_, rfl, a, _, 1, _, rfl, rfl, hS, atI_nat (j := 1) rfl, c, us, rfl, .inr hC, ?_⟩
    refine ⟨_, rfl, rfl, _, rfl, ifF (decide_eq_false fun z => ?_) ⟨_, rfl, _, _, rfl, rfl, _, rfl, ifF (decide_eq_false (by omega)) ⟨Nat.zero_le _, fun o no => ?_⟩⟩⟩
    · have z2 := V.int.inj z
      omega
    have eo : Ex H (upd H o (.lst [])) := Ex.new no
    refine ⟨_, rfl, a, _, 0, _, rfl, rfl, ex_t eo hS, atI_nat (j := 0) rfl, (l.1 : Int), rfl, by omega, by omega, fr_range (n := l.1) (fun i σ H' => ∃ y, σ = [some (.ref a), some (.int (us.length : Int)), some (.ref o), y, none] ∧ Ex H H' ∧ ∃ vs, H' o = some (.lst vs) ∧ Paired (TI K H') ((List.range i).map (dualB l)) vs)
      ⟨_, rfl, eo, [], upd_same, .nil⟩ ?_ ?_⟩
    · rintro i σ H' hi ⟨y, rfl, e, vs, hv, hp⟩
      refine ⟨_, rfl, .inl ⟨rfl, _, .inl (.inl hv)⟩, _, rfl, (us.length : Int), rfl, by omega, by omega, fun D hD => cl_range (n := us.length) (fun k => (l.2.getD k []).contains i) (fun i' v _ => v = .int (i' : Int)) hD (by omega) (fun _ => rfl) (fun _ _ _ _ h _ => h) (fun k H3 hk e3 Q q => ?_) (fun p H3 _ _ _ e3 _ Q q => ⟨_, rfl, q _ H3 (Ex.refl H3) rfl⟩) (fun H3 out e3 hD3 hq => ?_)⟩
      · obtain ⟨⟨d, hd, hdS⟩, _, _⟩ := paired_at hP hk [] .non
        refine ⟨_, rfl, _, rfl, a, _, 1, _, rfl, rfl, ex_t (e.trans e3) hS, atI_nat (j := 1) rfl, _, rfl, c, us, (k : Int), us.getD k .non, rfl, rfl, ex_t (e.trans e3) hC, atI_nat (by simp [List.getD_eq_getElem?_getD, hk]), d, nv (l.2.getD k []), by rw [hd], .inr (ex_t (e.trans e3) hdS), rfl, nv_flat _, _, rfl, ?_⟩
        rw [if_neg Bool.false_ne_true, inV_nv]
        exact q H3 (Ex.refl H3)
      · have hv3 := e3 _ _ hv
        refine ⟨D, out, rfl, .inl ⟨.inl (.inl hD3), fun t ht => ?_⟩⟩
        have nt : o ≠ t := ne_of_none hv3 ht
        have e4 := Ex.new ht (o := .tup out)
        have hv4 := e4 _ _ hv3
        have l1 := hp.length
        rw [List.length_map, List.length_range] at l1
        refine ⟨o, vs, _, rfl, rfl, hv4, Nat.lt_of_lt_of_le (show vs.length < 100 by omega) (by decide), _, rfl, Ex.mut ((e.trans e3).trans e4) no, vs ++ [.ref t], upd_same, ?_⟩
        rw [List.range_succ, List.map_append]
        have k : TK H' (upd (upd H3 t (.tup out)) o (.lst (vs ++ [.ref t]))) := (tk_of (e3.trans e4)).trans (tk_lst hv4)
        refine (paired_ti hp k).snoc (TI.tk (H := upd H3 t (.tup out)) ⟨t, rfl, ?_⟩ (tk_lst hv4))
        have eq : out = nv (dualB l i) := by
          rw [hl] at hq
          exact paired_eq hq
        rw [← eq]
        exact .inl (.inl upd_same)
    · rintro σ H' ⟨y, rfl, e, vs, hv, hp⟩
      refine ⟨_, rfl, _, rfl, o, vs, rfl, .inl ⟨.inl (.inl hv), fun t ht => ⟨by show 2 ≤ sizeLine; decide, fun p hp' => ?_⟩⟩⟩
      have e3 : Ex H' (upd H' t (.tup vs)) := Ex.new ht
      have e4 := Ex.new hp' (o := .tup [.int us.length, .ref t])
      refine q _ _ ((e.trans e3).trans e4) ⟨p, _, rfl, ?_, t, vs, rfl, ex_t e4 (.inl (.inl upd_same)), paired_ti hp (tk_of (e3.trans e4))⟩
      show SqT K _ p [.int ((l.2.length : Nat) : Int), .ref t]
      rw [← hl]
      exact .inl (.inl upd_same)
end
end EM
set_option Elab.async false
set_option linter.all false
set_option maxRecDepth 100000
set_option maxHeartbeats 2000000
namespace EM
open PySem PySem.Spec PyProof.Rows L2 Evl
section
variable {P : Program} {w : World} {K : PySem.W.Frag} {mg : Str → Option Value} {base : Heap}
/-! ### kept_to(points, blocks) -/
theorem key_nat {x p : Nat} : ((Sum.inl ((x : Nat) : Int) : Key) = Sum.inl ((p : Nat) : Int)) ↔ x = p := ⟨fun h => by have := Sum.inl.inj h; omega, fun h => by rw [h]⟩
/-- the dict behind the first i of ps -/
structure Plc (ps : List Nat) (i : Nat) (kvs : List (Key × V)) : Prop where
  len : kvs.length = i
  val : ∀ p : Nat, valV kvs (Sum.inl (p : Int) : Key) = if (ps.take i).contains p then some (.int ((ps.idxOf p : Nat) : Int)) else none
theorem plc_zero (ps : List Nat) : Plc ps 0 [] := ⟨rfl, fun p => by simp [valV]⟩
theorem idx_at : ∀ {ps : List Nat} {i x : Nat}, ps.Nodup → ps[i]? = some x → ps.idxOf x = i ∧ x ∉ ps.take i
  | [], i, x, _, h => by simp at h
  | p :: ps, 0, x, hn, h => by
    have e : p = x := by simpa using h
    subst e
    exact ⟨List.idxOf_cons_self, by simp⟩
  | p :: ps, i + 1, x, hn, h => by
    have h' : ps[i]? = some x := by simpa using h
    obtain ⟨n1, n2⟩ := List.nodup_cons.mp hn
    obtain ⟨q1, q2⟩ := idx_at n2 h'
    have hx : x ∈ ps := List.mem_of_getElem? h'
    have ne : ¬ p = x := fun e => n1 (by rw [e]; exact hx)
    refine ⟨by rw [idx_ne ne, q1], ?_⟩
    rw [List.take_succ_cons]
    intro m
    rcases List.mem_cons.mp m with e | e
    · exact ne e.symm
    · exact q2 e
theorem plc_step {ps : List Nat} {i x : Nat} {kvs : List (Key × V)} (hn : ps.Nodup) (hx : ps[i]? = some x) (h : Plc ps i kvs) : Plc ps (i + 1) (putK kvs (Sum.inl (x : Int)) (.int (i : Int))) := by
  obtain ⟨e1, e2⟩ := idx_at hn hx
  have nv' : valV kvs (Sum.inl (x : Int) : Key) = none := by
    rw [h.val x, if_neg]
    simpa using e2
  refine ⟨by rw [putK_new _ nv', List.length_append, h.len]; rfl, fun p => ?_⟩
  rw [valV_put, h.val p]
  have et : ps.take (i + 1) = ps.take i ++ [x] := by
    rw [List.take_add_one, hx]
    rfl
  by_cases e : p = x
  · subst e
    rw [if_pos rfl, if_pos (by rw [et]; simp), e1]
  · rw [if_neg (fun z => e (key_nat.mp z)), et]
    have e3 : (ps.take i ++ [x]).contains p = (ps.take i).contains p := by
      rw [Bool.eq_iff_iff]
      simp [e]
    rw [e3]
def sp_kept_to (K : PySem.W.Frag) : Sp := fun vs H Q _ => ∃ (ps : List Nat) (bs : List (List Nat)) (x y : V), vs = [x, y] ∧ LI K H ps x ∧ LB K H bs y ∧ ps.Nodup ∧ ps ≠ [] ∧ ps.length ≤ 60 ∧ bs.length ≤ 60 ∧ (∀ b ∈ bs, b.length ≤ 60) ∧ ∀ v H', Ex H H' → LY K H' (keptF ps bs) v → Q v H'
theorem sc_kept_to : FnScope ["points", "blocks", "place", "number", "point", "found", "block"] ["points", "blocks"] (defScope sKeptTo) := ⟨rfl, rfl, rfl, by decide +kernel, rfl, by decide +kernel, by decide +kernel⟩
theorem ok_kept_to (F : At K mg "kept_to" "kept_to" sKeptTo) (T : Tx K w mg) : Cal P w K mg base CX0 1 "kept_to" ["points", "blocks"] (sp_kept_to K) := by
  have S := sc_kept_to
  refine F.cal S (fun _ _ _ _ _ _ us hl => match us, hl with | [_, _], _ => rfl) (fun vs H Q E h => ?_) (fun cdv f A outer s H vs Q E hr h => ?_)
  · obtain ⟨ps, bs, x, y, rfl, _⟩ := h
    rfl
  · obtain ⟨ps, bs, x, y, rfl, hX, hY, hn, h0, hpl, hbl, hb, q⟩ := h
    obtain ⟨a, rfl, hA⟩ := hX
    obtain ⟨b, us, rfl, hB, hP⟩ := hY
    have hu := hu_of hr
    have hl : us.length = bs.length := hP.length.symm
    have hlp : (nv ps).length = ps.length := nv_len ps
    have hpos : 0 < ps.length := by
      cases ps with
      | nil => exact absurd rfl h0
      | cons _ _ => exact Nat.succ_pos _
    refine ⟨_, (pss_cons (ps_if (pt_cmpR (op_eq) (pe_callB (xlen_seq K) rfl T.len bt_len (pa_cons (pv 0) pa_nil)) pe_int (nomark _))
      (pss_one ps_never)
      pss_nil)
      (pss_cons (ps_set (i := 2) S.nd rfl (by first | exact Or.inl rfl | exact Or.inr rfl) pe_dnewK)
      (pss_cons (ps_for PassesOwn.never rfl (pi_enum rfl T.enumerate (pa_cons (pv 0) pa_nil)) (pg_tup rfl (pgs_cons (pg_name (i := 3) S.nd rfl (by first | exact Or.inl rfl | exact Or.inr rfl)) (pgs_cons (pg_name (i := 4) S.nd rfl (by first | exact Or.inl rfl | exact Or.inr rfl)) pgs_nil)))
      (pss_one (ps_dput hu (pv 2) (pv 4) (pv 3) rfl)))
      (pss_cons (ps_setLc (i := 5) (own := [("block", 6)]) (g := gName 6) rfl S.nd rfl rfl (sw_true rfl rfl rfl (by decide +kernel)) (xpi_list K (pv 1)) (blkOk_by (by kernel_rfl)) (fun _ _ _ _ _ => (pg_name (i := 6) S.nd rfl (by first | exact Or.inl rfl | exact Or.inr rfl))) (fun _ _ _ _ _ => pts_nil) (fun _ _ _ _ _ => (pe_callTy (xtuple_of K) rfl T.tuple bt_tuple (pa_cons (pe_lc (own := [("point", 4)]) (g := gName 4) rfl S.nd (xpi_tup K (pv 6)) (blkOk_by (by kernel_rfl)) (fun _ _ _ _ _ => (pg_name (i := 4) S.nd rfl (by first | exact Or.inl rfl | exact Or.inr rfl))) (fun _ _ _ _ _ => (pts_one (pt_cmp (pc_din hu (pv 4) (pv 2))))) (fun _ _ _ _ _ => (pe_dget hu (pv 2) (pv 4) (fun _ _ => rfl)))) pa_nil))))
      (pss_one (ps_ret (pe_tup (pa_cons (pe_callB (xlen_seq K) rfl T.len bt_len (pa_cons (pv 0) pa_nil)) (pa_cons (pe_callTy (xtuple_of K) rfl T.tuple bt_tuple (pa_cons (pv 5) pa_nil)) pa_nil))))))))), ?_⟩
    refine ⟨_, rfl, a, nv ps, rfl, .inl hA, rfl, _, rfl, ifF (decide_eq_false fun z => ?_) fun d hd => ?_⟩
    · have z2 := V.int.inj z
      omega
    have ed : Ex H (upd H d (.dK [])) := Ex.new hd
    refine ⟨_, rfl, a, nv ps, rfl, ex_l ed hA, for_it (walk_enum (K := K) (a := a) (xs := nv ps)) (fun i σ H' => ∃ u v, σ = [some (.ref a), some (.ref b), some (.ref d), u, v, none, none] ∧ Ex H H' ∧ ∃ kvs, H' d = some (.dK kvs) ∧ Plc ps i kvs)
      ⟨_, _, rfl, ed, [], upd_same, plc_zero ps⟩ (fun i σ H' _ ⟨_, _, _, e, _⟩ => ex_l e hA) ?_ ?_⟩
    · rintro i x σ H' H2 hi ⟨u, v, rfl, e, kvs, hk, hp⟩ ⟨T', y1, y2, rfl, nT, rfl, g1, g2⟩
      obtain ⟨p, g3, rfl⟩ := nv_get g2
      have e1 : y1 = .int (i : Int) := (Option.some.inj g1).symm
      subst e1
      have eT := Ex.new nT (o := .tup [.int (i : Int), .int (p : Int)])
      have hk2 := eT _ _ hk
      refine ⟨T', _, rfl, .inl (.inl upd_same), rfl, _, _, rfl, _, _, rfl, rfl, ?_⟩
      refine ⟨_, rfl, _, rfl, _, rfl, d, _, rfl, DPut.k (k := Sum.inl (p : Int)) hk2 (Nat.lt_of_lt_of_le (show kvs.length < 100 by rw [hp.len]; omega) (by decide)), ?_⟩
      exact ⟨_, _, rfl, Ex.mut (e.trans eT) hd, _, upd_same, plc_step hn g3 hp⟩
    · rintro σ H1 ⟨u, v, rfl, e1, kvs, hk, hp⟩
      rw [hlp] at hp
      have hv : ∀ p : Nat, valV kvs (Sum.inl (p : Int) : Key) = if ps.contains p then some (.int ((ps.idxOf p : Nat) : Int)) else none := fun p => by
        have q := hp.val p
        rw [List.take_length] at q
        exact q
      have hB1 := ex_l e1 hB
      refine ⟨_, rfl, b, rfl, ⟨_, hB1⟩, fun D hD => cl_list hB1 (fun _ => true) (fun i v H' => TI K H' (((bs.getD i []).filter fun p => ps.contains p).map fun p => ps.idxOf p) v) hD (by omega) (fun _ => rfl) (fun _ _ _ _ h k => h.tk k.tk) (fun i H2 _ _ Q q => q H2 (Ex.refl H2)) (fun i H2 acc hi _ e2 _ Q q => ?_) (fun H' out e2 hD' hp => ?_)⟩
      · obtain ⟨⟨c, hc, hcS⟩, hm, _⟩ := paired_at hP hi [] .non
        have hlc : (nv (bs.getD i [])).length ≤ 60 := by rw [nv_len]; exact hb _ hm
        have hC2 : SqT K H2 c (nv (bs.getD i [])) := ex_t (e1.trans e2) hcS
        have hk2 := e2 _ _ hk
        refine ⟨_, rfl, c, by rw [hc], ⟨_, hC2⟩, fun D2 hD2 => cl_tup hC2 (fun k => ps.contains ((bs.getD i []).getD k 0)) (fun k v _ => v = .int ((ps.idxOf ((bs.getD i []).getD k 0) : Nat) : Int)) hD2 (by omega) (fun _ => rfl) (fun _ _ _ _ h _ => h) (fun k H3 hk3 e3 Q q => ?_) (fun k H3 acc2 hk3 hf e3 _ Q q => ?_) (fun H3 out2 e3 hD3 hq => ?_)⟩
        · obtain ⟨p, _, _, h4, h5⟩ := nv_getD hk3
          have h6 := hv p
          refine ⟨_, rfl, _, rfl, d, _, rfl, by rw [h5]; exact DGet.k (k := Sum.inl (p : Int)) (e3 _ _ hk2), _, rfl, ?_⟩
          rw [h6]
          have h7 := q H3 (Ex.refl H3)
          rw [h4] at h7
          cases hc2 : ps.contains p with
          | true =>
            rw [hc2] at h7
            exact h7
          | false =>
            rw [hc2] at h7
            exact h7
        · obtain ⟨p, _, _, h4, h5⟩ := nv_getD hk3
          rw [h4] at hf q
          have h6 := hv p
          rw [if_pos hf] at h6
          refine ⟨_, rfl, _, rfl, d, _, rfl, by rw [h5, ← h6]; exact DGet.k (k := Sum.inl (p : Int)) (e3 _ _ hk2), q _ H3 (Ex.refl H3) rfl⟩
        · refine ⟨D2, out2, rfl, .inl ⟨.inl (.inl hD3), fun t ht => ?_⟩⟩
          refine q _ _ (e3.trans (Ex.new ht)) ⟨t, rfl, ?_⟩
          have eq : out2 = nv (((bs.getD i []).filter fun p => ps.contains p).map fun p => ps.idxOf p) := by
            rw [nv_len] at hq
            have q2 := paired_kept (F := fun (p : Nat) (v : V) => v = .int ((ps.idxOf p : Nat) : Int)) (p := fun p => ps.contains p) hq
            rw [paired_eq q2]
            unfold nv
            rw [List.map_map]
            rfl
          rw [← eq]
          exact .inl (.inl upd_same)
      · have hp2 : Paired (TI K H') (keptF ps bs).2 out := by
          refine paired_mapl ?_
          rw [hl] at hp
          exact paired_range (d := []) hp
        have hA2 := ex_l (e1.trans e2) hA
        refine ⟨_, rfl, a, nv ps, rfl, .inl hA2, _, rfl, D, out, rfl, .inl ⟨.inl (.inl hD'), fun t ht => ⟨by show 2 ≤ sizeLine; decide, fun p hp' => ?_⟩⟩⟩
        have e3 : Ex H' (upd H' t (.tup out)) := Ex.new ht
        have e4 := Ex.new hp' (o := .tup [.int ((nv ps).length : Int), .ref t])
        refine q _ _ (((e1.trans e2).trans e3).trans e4) ⟨p, _, rfl, ?_, t, out, rfl, ex_t e4 (.inl (.inl upd_same)), paired_ti hp2 (tk_of (e3.trans e4))⟩
        show SqT K _ p [.int ((ps.length : Nat) : Int), .ref t]
        rw [← hlp]
        exact .inl (.inl upd_same)
/-! ### rest_of(layout, point) -/
def sp_rest_of (K : PySem.W.Frag) : Sp := fun vs H Q _ => ∃ (l : Lay) (p : Nat) (x : V), vs = [x, .int p] ∧ LY K H l x ∧ LOk l ∧ p < l.1 ∧ ∀ v H', Ex H H' → LI K H' (restF l.1 p) v → Q v H'
theorem sc_rest_of : FnScope ["layout", "point", "other"] ["layout", "point"] (defScope sRestOf) := ⟨rfl, rfl, rfl, by decide +kernel, rfl, by decide +kernel, by decide +kernel⟩
theorem ok_rest_of (F : At K mg "rest_of" "rest_of" sRestOf) (T : Tx K w mg) (G_is_below : Cal P w K mg base CX0 1 "is_below" ["thing", "many"] (sp_is_below K)) : Cal P w K mg base CX0 2 "rest_of" ["layout", "point"] (sp_rest_of K) := by
  have S := sc_rest_of
  refine F.cal S (fun _ _ _ _ _ _ us hl => match us, hl with | [_, _], _ => rfl) (fun vs H Q E h => ?_) (fun cdv f A outer s H vs Q E hr h => ?_)
  · obtain ⟨l, p, x, rfl, _⟩ := h
    rfl
  · obtain ⟨l, p, x, rfl, hL, hO, hp, q⟩ := h
    obtain ⟨a, b, rfl, hS, hT⟩ := hL
    have hn := hO.most
    refine ⟨_, (pss_cons (ps_if (pt_not (pt_val (pe_cc G_is_below (hr.mono (by decide)) (pa_cons (pv 1) (pa_cons (pe_ix (xix_tup K) (pv 0) pe_int (fun _ _ => rfl)) pa_nil)))))
      (pss_one ps_never)
      pss_nil)
      (pss_one (ps_ret (pe_lc (own := [("other", 2)]) (g := gName 2) rfl S.nd (pi_range1 rfl T.range (pa_cons (pe_ix (xix_tup K) (pv 0) pe_int (fun _ _ => rfl)) pa_nil)) (blkOk_by (by kernel_rfl)) (fun _ _ _ _ _ => (pg_name (i := 2) S.nd rfl (by first | exact Or.inl rfl | exact Or.inr rfl))) (fun _ _ _ _ _ => (pts_one (pt_cmpR (op_ne) (pv 2) (pv 1) (nomark _)))) (fun _ _ _ _ _ => (pv 2)))))), ?_⟩
    refine ⟨_, rfl, _, rfl, a, _, 0, _, rfl, rfl, hS, atI_nat (j := 0) rfl, p, l.1, rfl, hp, _, rfl, iteF ?_⟩
    refine ⟨_, rfl, a, _, 0, _, rfl, rfl, hS, atI_nat (j := 0) rfl, (l.1 : Int), rfl, by omega, by omega, fun D hD => cl_range (n := l.1) (fun o => o != p) (fun i' v _ => v = .int (i' : Int)) hD (by omega) (fun _ => rfl) (fun _ _ _ _ h _ => h) (fun o H3 _ e3 Q q => ?_) (fun p H3 _ _ _ e3 _ Q q => ⟨_, rfl, q _ H3 (Ex.refl H3) rfl⟩) (fun H3 out e3 hD3 hq => ?_)⟩
    · refine ⟨_, rfl, _, rfl, rfl, _, rfl, ?_⟩
      have e : (!decide (V.int (o : Int) = V.int (p : Int))) = (o != p) := by
        by_cases z : o = p
        · subst z
          simp
        · have z2 : ¬ V.int (o : Int) = V.int (p : Int) := fun y => z (by have := V.int.inj y; omega)
          rw [decide_eq_false z2]
          simp [bne, z]
      show Q (!decide (V.int (o : Int) = V.int (p : Int))) H3
      rw [e]
      exact q H3 (Ex.refl H3)
    · refine q _ _ e3 ⟨D, rfl, ?_⟩
      have e : out = nv (restF l.1 p) := paired_eq hq
      rw [← e]
      exact .inl (.inl hD3)
/-! ### at_point, off_point -/
def sp_at_point (K : PySem.W.Frag) : Sp := fun vs H Q _ => ∃ (l : Lay) (p : Nat) (x : V), vs = [x, .int p] ∧ LY K H l x ∧ LOk l ∧ p < l.1 ∧ 2 ≤ l.1 ∧ ∀ v H', Ex H H' → LY K H' (atF l p) v → Q v H'
def sp_off_point (K : PySem.W.Frag) : Sp := fun vs H Q _ => ∃ (l : Lay) (p : Nat) (x : V), vs = [x, .int p] ∧ LY K H l x ∧ LOk l ∧ p < l.1 ∧ 2 ≤ l.1 ∧ ∀ v H', Ex H H' → LY K H' (offF l p) v → Q v H'
theorem sc_at_point : FnScope ["layout", "point", "points", "block"] ["layout", "point"] (defScope sAtPoint) := ⟨rfl, rfl, rfl, by decide +kernel, rfl, by decide +kernel, by decide +kernel⟩
theorem sc_off_point : FnScope ["layout", "point", "points", "block"] ["layout", "point"] (defScope sOffPoint) := ⟨rfl, rfl, rfl, by decide +kernel, rfl, by decide +kernel, by decide +kernel⟩
theorem ok_at_point (F : At K mg "at_point" "at_point" sAtPoint) (T : Tx K w mg) (G_rest_of : Cal P w K mg base CX0 2 "rest_of" ["layout", "point"] (sp_rest_of K)) (G_kept_to : Cal P w K mg base CX0 1 "kept_to" ["points", "blocks"] (sp_kept_to K)) : Cal P w K mg base CX0 3 "at_point" ["layout", "point"] (sp_at_point K) := by
  have S := sc_at_point
  refine F.cal S (fun _ _ _ _ _ _ us hl => match us, hl with | [_, _], _ => rfl) (fun vs H Q E h => ?_) (fun cdv f A outer s H vs Q E hr h => ?_)
  · obtain ⟨l, p, x, rfl, _⟩ := h
    rfl
  · obtain ⟨l, p, x, rfl, hL, hO, hp, h2, q⟩ := h
    have hL0 := hL
    obtain ⟨a, b, rfl, hS, c, us, rfl, hC, hP⟩ := hL
    have hm := hO.many
    have hl : us.length = l.2.length := hP.length.symm
    have hrl := rest_len hp
    refine ⟨_, (pss_cons (ps_set (i := 2) S.nd rfl (by first | exact Or.inl rfl | exact Or.inr rfl) (pe_cc G_rest_of (hr.mono (by decide)) (pa_cons (pv 0) (pa_cons (pv 1) pa_nil))))
      (pss_one (ps_ret (pe_cc G_kept_to (hr.mono (by decide)) (pa_cons (pv 2) (pa_cons (pe_lc (own := [("block", 3)]) (g := gName 3) rfl S.nd (xpi_tup K (pe_ix (xix_tup K) (pv 0) pe_int (fun _ _ => rfl))) (blkOk_by (by kernel_rfl)) (fun _ _ _ _ _ => (pg_name (i := 3) S.nd rfl (by first | exact Or.inl rfl | exact Or.inr rfl))) (fun _ _ _ _ _ => (pts_one (pt_cmpR (xop_in K) (pv 1) (pv 3) rfl))) (fun _ _ _ _ _ => (pv 3))) pa_nil)))))), ?_⟩
    refine ⟨_, rfl, _, rfl, l, p, _, rfl, hL0, hO, hp, fun v H1 e1 hv => ?_⟩
    have hC1 := ex_t e1 hC
    refine ⟨_, rfl, _, rfl, a, _, 1, _, rfl, rfl, ex_t e1 hS, atI_nat (j := 1) rfl, c, rfl, ⟨_, hC1⟩, fun D hD => cl_tup hC1 (fun i => (l.2.getD i []).contains p) (fun i v H' => TI K H' (l.2.getD i []) v) hD (by omega) (fun _ => rfl) (fun _ _ _ _ h k => h.tk k.tk) (fun i H2 hi e2 Q q => ?_) (fun i H2 acc hi _ e2 _ Q q => ?_) (fun H' out e2 hD' hq => ?_)⟩
    · obtain ⟨⟨d, hd, hdS⟩, _, _⟩ := paired_at hP hi [] .non
      refine ⟨_, rfl, _, rfl, d, nv (l.2.getD i []), by rw [hd], .inr (ex_t (e1.trans e2) hdS), rfl, nv_flat _, _, rfl, ?_⟩
      rw [if_neg Bool.false_ne_true, inV_nv]
      exact q H2 (Ex.refl H2)
    · exact ⟨_, rfl, q _ H2 (Ex.refl H2) (TI.tk (paired_at hP hi [] .non).1 (tk_of (e1.trans e2)))⟩
    · rw [hl] at hq
      have hq2 := paired_kept (F := TI K H') (p := fun b => b.contains p) hq
      refine ⟨restF l.1 p, l.2.filter fun b => b.contains p, v, .ref D, rfl, hv.ex e2, ⟨D, out, rfl, .inl (.inl hD'), hq2⟩, (rest_asc _ _).nodup, fun z => by rw [z] at hrl; simp at hrl; omega, by have := hO.most; omega, Nat.le_trans (List.length_filter_le _ _) hm, fun b hb => Nat.le_trans (hO.blk b (List.mem_filter.mp hb).1).len hO.most, fun v2 H3 e3 hv2 => q _ _ ((e1.trans e2).trans e3) hv2⟩
theorem ok_off_point (F : At K mg "off_point" "off_point" sOffPoint) (T : Tx K w mg) (G_rest_of : Cal P w K mg base CX0 2 "rest_of" ["layout", "point"] (sp_rest_of K)) (G_kept_to : Cal P w K mg base CX0 1 "kept_to" ["points", "blocks"] (sp_kept_to K)) : Cal P w K mg base CX0 3 "off_point" ["layout", "point"] (sp_off_point K) := by
  have S := sc_off_point
  refine F.cal S (fun _ _ _ _ _ _ us hl => match us, hl with | [_, _], _ => rfl) (fun vs H Q E h => ?_) (fun cdv f A outer s H vs Q E hr h => ?_)
  · obtain ⟨l, p, x, rfl, _⟩ := h
    rfl
  · obtain ⟨l, p, x, rfl, hL, hO, hp, h2, q⟩ := h
    have hL0 := hL
    obtain ⟨a, b, rfl, hS, c, us, rfl, hC, hP⟩ := hL
    have hm := hO.many
    have hl : us.length = l.2.length := hP.length.symm
    have hrl := rest_len hp
    refine ⟨_, (pss_cons (ps_set (i := 2) S.nd rfl (by first | exact Or.inl rfl | exact Or.inr rfl) (pe_cc G_rest_of (hr.mono (by decide)) (pa_cons (pv 0) (pa_cons (pv 1) pa_nil))))
      (pss_one (ps_ret (pe_cc G_kept_to (hr.mono (by decide)) (pa_cons (pv 2) (pa_cons (pe_lc (own := [("block", 3)]) (g := gName 3) rfl S.nd (xpi_tup K (pe_ix (xix_tup K) (pv 0) pe_int (fun _ _ => rfl))) (blkOk_by (by kernel_rfl)) (fun _ _ _ _ _ => (pg_name (i := 3) S.nd rfl (by first | exact Or.inl rfl | exact Or.inr rfl))) (fun _ _ _ _ _ => (pts_one (pt_cmpR (xop_notIn K) (pv 1) (pv 3) rfl))) (fun _ _ _ _ _ => (pv 3))) pa_nil)))))), ?_⟩
    refine ⟨_, rfl, _, rfl, l, p, _, rfl, hL0, hO, hp, fun v H1 e1 hv => ?_⟩
    have hC1 := ex_t e1 hC
    refine ⟨_, rfl, _, rfl, a, _, 1, _, rfl, rfl, ex_t e1 hS, atI_nat (j := 1) rfl, c, rfl, ⟨_, hC1⟩, fun D hD => cl_tup hC1 (fun i => !(l.2.getD i []).contains p) (fun i v H' => TI K H' (l.2.getD i []) v) hD (by omega) (fun _ => rfl) (fun _ _ _ _ h k => h.tk k.tk) (fun i H2 hi e2 Q q => ?_) (fun i H2 acc hi _ e2 _ Q q => ?_) (fun H' out e2 hD' hq => ?_)⟩
    · obtain ⟨⟨d, hd, hdS⟩, _, _⟩ := paired_at hP hi [] .non
      refine ⟨_, rfl, _, rfl, d, nv (l.2.getD i []), by rw [hd], .inr (ex_t (e1.trans e2) hdS), rfl, nv_flat _, _, rfl, ?_⟩
      rw [if_pos rfl, inV_nv]
      exact q H2 (Ex.refl H2)
    · exact ⟨_, rfl, q _ H2 (Ex.refl H2) (TI.tk (paired_at hP hi [] .non).1 (tk_of (e1.trans e2)))⟩
    · rw [hl] at hq
      have hq2 := paired_kept (F := TI K H') (p := fun b => !b.contains p) hq
      refine ⟨restF l.1 p, l.2.filter fun b => !b.contains p, v, .ref D, rfl, hv.ex e2, ⟨D, out, rfl, .inl (.inl hD'), hq2⟩, (rest_asc _ _).nodup, fun z => by rw [z] at hrl; simp at hrl; omega, by have := hO.most; omega, Nat.le_trans (List.length_filter_le _ _) hm, fun b hb => Nat.le_trans (hO.blk b (List.mem_filter.mp hb).1).len hO.most, fun v2 H3 e3 hv2 => q _ _ ((e1.trans e2).trans e3) hv2⟩
end
end EM
set_option Elab.async false
set_option linter.all false
set_option maxRecDepth 100000
set_option maxHeartbeats 2000000
namespace EM
open PySem PySem.Spec PyProof.Rows L2 Evl
section
variable {P : Program} {w : World} {K : PySem.W.Frag} {mg : Str → Option Value} {base : Heap}
/-! ### number_in(word, most): figures -/
def sp_number_in (K : PySem.W.Frag) : Sp := fun vs H Q _ => ∃ n m : Nat, vs = [.str (natS n), .int m] ∧ (natS n).length ≤ m ∧ m ≤ 6 ∧ ∀ H', Ex H H' → Q (.int n) H'
theorem sc_number_in : FnScope ["word", "most", "sign"] ["word", "most"] (defScope sNumberIn) := ⟨rfl, rfl, rfl, by decide +kernel, rfl, by decide +kernel, by decide +kernel⟩
theorem ok_number_in (F : At K mg "number_in" "number_in" sNumberIn) (T : Tx K w mg) : Cal P w K mg base CX0 1 "number_in" ["word", "most"] (sp_number_in K) := by
  have S := sc_number_in
  refine F.cal S (fun _ _ _ _ _ _ us hl => match us, hl with | [_, _], _ => rfl) (fun vs H Q E h => ?_) (fun cdv f A outer s H vs Q E hr h => ?_)
  · obtain ⟨n, m, rfl, _⟩ := h
    rfl
  · obtain ⟨n, m, rfl, hl, hm, q⟩ := h
    have hp := nat_pos n
    have hz : (natS n).length ≤ sizeLine := len_nat (by omega)
    have hsz : (natS n).cps.size = (natS n).length := rfl
    refine ⟨_, (pss_cons (ps_if (PW.pt (pw_or (pt_not (pt_chain op_le op_le pe_int (pe_callB call_len_str rfl T.len bt_len (pa_cons (pv 0) pa_nil)) (pv 1))) (pw_or1 (pt_not (pt_val (pe_callB (xall K rfl) rfl T.all bt_all (pa_cons (pe_lc (own := [("sign", 2)]) (g := gName 2) rfl S.nd (pi_str (pv 0)) (blkOk_by (by kernel_rfl)) (fun _ _ _ _ _ => (pg_name (i := 2) S.nd rfl (by first | exact Or.inl rfl | exact Or.inr rfl))) (fun _ _ _ _ _ => pts_nil) (fun _ _ _ _ _ => (pe_cmpR (op_in_sign) (pv 2) (pe_gstr T.FIGURES) rfl))) pa_nil)))))))
      (pss_one (ps_ret pe_non))
      pss_nil)
      (pss_cons (ps_if (PW.pt (pw_and (pt_cmpR (op_eq) (pe_ix ix_str (pv 0) pe_int (fun _ _ => rfl)) pe_str (nomark _)) (pw_and1 (pt_cmpR (op_gt) (pe_callB call_len_str rfl T.len bt_len (pa_cons (pv 0) pa_nil)) pe_int (nomark _)))))
      (pss_one (ps_ret pe_non))
      pss_nil)
      (pss_one (ps_ret (pe_callTy call_int_str rfl T.int bt_int (pa_cons (pv 0) pa_nil)))))), ?_⟩
    refine ⟨_, rfl, _, rfl, hz, _, _, rfl, rfl, _, rfl, ifT (decide_eq_true (by omega)) ⟨_, rfl, _, _, rfl, rfl, _, rfl, ifF (by rw [decide_eq_true (by omega)]; rfl) ?_⟩⟩
    refine ⟨_, rfl, natS n, rfl, fun D hD => cl_str (z := natS n) (fun _ => true) (fun _ v _ => v = .bl true) hD (by omega) (fun _ => rfl) (fun _ _ _ _ h _ => h) (fun i H2 _ _ Q q => q H2 (Ex.refl H2)) (fun i H2 acc hi _ e2 _ Q q => ?_) (fun H' out e1 hD' hp => ?_)⟩
    · refine ⟨_, rfl, _, _, rfl, rfl, q _ H2 (Ex.refl H2) ?_⟩
      have hc : (natS n).cps.getD i 0 ∈ TL.tl (natS n) := by
        have e : (natS n).cps.getD i 0 = (natS n).cps[i] := by simp [Array.getD_eq_getD_getElem?, hi]
        rw [e]
        simp
      have e2 : decide ((natS n).cps.getD i 0 ∈ (Str.ofString "0123456789").cps.toList) = true := decide_eq_true (fig_mem (nat_digit hc))
      exact congrArg V.bl e2
    · obtain ⟨bs, rfl, ha⟩ := all_true out (paired_all hp fun _ _ h => h)
      refine ⟨D, bs, rfl, .inl (.inl hD'), _, rfl, ?_⟩
      rw [ha]
      refine iteF ?_
      have hpos : 0 < (TL.tl (natS n)).length := by
        rw [← TL.len_tl]
        omega
      have hat : atI (natS n).cps.toList 0 = some (TL.tl (natS n))[0] := atI_nat (j := 0) (List.getElem?_eq_getElem hpos)
      refine ⟨_, rfl, _, 0, _, rfl, rfl, hz, hat, rfl, _, rfl, ?_⟩
      have fin : ∀ D : Ends, D.rt = Q → (tCB (fun xs H Q => ∃ a n, xs = [V.str a] ∧ intText? a = some n ∧ a.length ≤ 640 ∧ Q (V.int n) H) (tCons (tVar 0) tNil)) (L2.start ["word", "most", "sign"] [V.str (natS n), V.int m]) H' D.rt := fun D hD => by
        rw [hD]
        exact ⟨_, rfl, natS n, _, rfl, nat_int (by omega), by omega, q H' e1⟩
      refine ite2 (fun hc => ⟨_, rfl, _, rfl, hz, _, _, rfl, rfl, _, rfl, ifF (decide_eq_false fun z => ?_) (fin _ rfl)⟩) (fun _ => iteF (fin _ rfl))
      have h48 : (TL.tl (natS n))[0] = 48 := by
        have z1 := V.str.inj (of_decide_eq_true hc)
        have z2 := congrArg (fun s : Str => s.cps.toList) z1
        have z3 : [(TL.tl (natS n))[0]] = [48] := z2
        simpa using z3
      have h1 := nat_nought (n := n) (by
        have e : (natS n).cps.toList[0]? = some (TL.tl (natS n))[0] := List.getElem?_eq_getElem hpos
        rw [e, h48])
      omega
/-! ### block_in(word) -/
def sp_block_in (K : PySem.W.Frag) : Sp := fun vs H Q _ => ∃ b : List Nat, vs = [.str (blkW b)] ∧ b.length ≤ 60 ∧ (∀ p ∈ b, p < 100) ∧ ∀ p H', H p = none → Ex H H' → H' p = some (.lst (nv b)) → Q (.ref p) H'
theorem sc_block_in : FnScope ["word", "points", "part"] ["word"] (defScope sBlockIn) := ⟨rfl, rfl, rfl, by decide +kernel, rfl, by decide +kernel, by decide +kernel⟩
theorem ok_block_in (F : At K mg "block_in" "block_in" sBlockIn) (T : Tx K w mg) (G_number_in : Cal P w K mg base CX0 1 "number_in" ["word", "most"] (sp_number_in K)) : Cal P w K mg base CX0 2 "block_in" ["word"] (sp_block_in K) := by
  have S := sc_block_in
  refine F.cal S (fun _ _ _ _ _ _ us hl => match us, hl with | [_], _ => rfl) (fun vs H Q E h => ?_) (fun cdv f A outer s H vs Q E hr h => ?_)
  · obtain ⟨b, rfl, _⟩ := h
    rfl
  · obtain ⟨b, rfl, hl, hb, q⟩ := h
    have hbl := blk_len hl hb
    obtain ⟨tm, hmg⟩ := T.MOST_FIGURES_layouttexts
    refine ⟨_, (pss_cons (ps_if (pt_cmpR (op_eq) (pv 0) pe_str (nomark _))
      (pss_one (ps_ret (pe_lst pa_nil)))
      pss_nil)
      (pss_cons (ps_setLc (i := 1) (own := [("part", 2)]) (g := gName 2) rfl S.nd rfl rfl (sw_true rfl rfl rfl (by decide +kernel)) (xpi_list K (pe_split (pv 0) pe_str)) (blkOk_by (by kernel_rfl)) (fun _ _ _ _ _ => (pg_name (i := 2) S.nd rfl (by first | exact Or.inl rfl | exact Or.inr rfl))) (fun _ _ _ _ _ => pts_nil) (fun _ _ _ _ _ => (pe_cc G_number_in (hr.mono (by decide)) (pa_cons (pv 2) (pa_cons (pe_gint T.MOST_FIGURES_layouttexts) pa_nil)))))
      (pss_cons (ps_if (pt_cmpR (xop_in K) pe_non (pv 1) rfl)
      (pss_one (ps_ret pe_non))
      pss_nil)
      (pss_one (ps_ret (pv 1)))))), ?_⟩
    refine ⟨_, rfl, rfl, _, rfl, ?_⟩
    refine ite2 (fun hc => ?_) (fun hc => ?_)
    · have e := V.str.inj (of_decide_eq_true hc)
      have e2 : b = [] := by
        by_cases z : b = []
        · exact z
        · exact absurd e (blk_ne z)
      subst e2
      exact ⟨Nat.zero_le _, fun p np => q p _ np (Ex.new np) upd_same⟩
    · have hne : b ≠ [] := fun z => by
        subst z
        exact hc (decide_eq_true (congrArg V.str blk_nil))
      refine ⟨_, rfl, ⟨_, rfl⟩, _, _, rfl, rfl, by decide, ?_, fun o no => ?_⟩
      · have : sizeLine = 16777216 := sizeLine_eq
        omega
      rw [split_blk hne]
      have eo : Ex H (upd H o (.lst ((b.map natS).map V.str))) := Ex.new no
      have hO : SqL K (upd H o (.lst ((b.map natS).map V.str))) o ((b.map natS).map V.str) := .inl (.inl upd_same)
      have hlen : ((b.map natS).map V.str).length = b.length := by rw [List.length_map, List.length_map]
      refine ⟨o, rfl, ⟨_, hO⟩, fun D hD => cl_list hO (fun _ => true) (fun i v _ => v = .int ((b.getD i 0 : Nat) : Int)) hD (by omega) (fun _ => rfl) (fun _ _ _ _ h _ => h) (fun i H2 _ _ Q q => q H2 (Ex.refl H2)) (fun i H2 acc hi _ e2 _ Q q => ?_) (fun H' out e1 hD' hp => ?_)⟩
      · rw [hlen] at hi
        have e3 : ((b.map natS).map V.str).getD i .non = .str (natS (b.getD i 0)) := by simp [List.getD_eq_getElem?_getD, hi]
        have hm : b.getD i 0 ∈ b := by
          have e4 : b.getD i 0 = b[i] := by simp [List.getD_eq_getElem?_getD, hi]
          rw [e4]
          exact List.getElem_mem hi
        have h2 := nat_len (n := b.getD i 0) (k := 2) (by omega) (by have := hb _ hm; omega)
        refine ⟨_, rfl, b.getD i 0, 4, by rw [e3]; rfl, by omega, by omega, fun H3 e4 => q _ H3 e4 rfl⟩
      · have eq : out = nv b := by
          rw [hlen] at hp
          exact paired_eq (paired_range (F := fun (p : Nat) (v : V) => v = .int (p : Int)) hp)
        subst eq
        refine ⟨_, rfl, D, nv b, rfl, .inl (.inl (.inl hD')), rfl, nv_flat b, _, rfl, ?_⟩
        have en : inV .non (nv b) = false := by
          unfold inV nv
          rw [List.any_map]
          exact List.any_eq_false.mpr fun x _ => by
            show ¬ false = true
            decide
        rw [if_neg Bool.false_ne_true, en]
        refine iteF ⟨_, rfl, q D H' (fresh_back eo hD) (eo.trans e1) hD'⟩
end
end EM
set_option Elab.async false
set_option linter.all false
set_option maxRecDepth 100000
set_option maxHeartbeats 2000000
namespace EM
open PySem PySem.Spec PyProof.Rows L2 Evl
section
variable {P : Program} {w : World} {K : PySem.W.Frag} {mg : Str → Option Value} {base : Heap}
/-! ### blocks_in(words) -/
def sp_blocks_in (K : PySem.W.Frag) : Sp := fun vs H Q _ => ∃ (a : Addr) (bs : List (List Nat)), vs = [.ref a] ∧ SqL K H a ((bs.map blkW).map V.str) ∧ bs.length ≤ 60 ∧ (∀ b ∈ bs, b.length ≤ 60 ∧ ∀ p ∈ b, p < 100) ∧ ∀ v H', Ex H H' → LLs K H' bs v → Q v H'
def pdB (b : List Nat) : PyData := .list (b.map fun (p : Nat) => .int (p : Int))
theorem dp_nums {H : Hp} : ∀ b : List Nat, DpAll K H (nv b) (b.map fun (p : Nat) => PyData.int (p : Int))
  | [] => .nil
  | p :: b => .cons (.int _) (dp_nums b)
theorem dp_lists {H : Hp} : ∀ {bs : List (List Nat)} {vs : List V}, Paired (LI K H) bs vs → DpAll K H vs (bs.map pdB)
  | _, _, .nil => .nil
  | _, _, .cons (a := b) h t => by
    obtain ⟨c, rfl, hc⟩ := h
    exact .cons (.lst hc (dp_nums b)) (dp_lists t)
theorem shaped_non : SeqAt.shaped PyData.none = true := by decide +kernel
theorem can_nums : ∀ b : List Nat, PyData.canLayAll0 (b.map fun (p : Nat) => PyData.int (p : Int)) = true ∧ PyData.depthAll (b.map fun (p : Nat) => PyData.int (p : Int)) = 0
  | [] => ⟨by simp [PyData.canLayAll0], by simp [PyData.depthAll]⟩
  | p :: b => by
    obtain ⟨h1, h2⟩ := can_nums b
    constructor
    · rw [List.map_cons, PyData.canLayAll0, h1]
      simp [PyData.canLay0]
    · rw [List.map_cons, PyData.depthAll, h2]
      simp [PyData.depth]
theorem can_lists : ∀ bs : List (List Nat), PyData.canLayAll0 (bs.map pdB) = true ∧ PyData.depthAll (bs.map pdB) ≤ 1
  | [] => ⟨by simp [PyData.canLayAll0], by simp [PyData.depthAll]⟩
  | b :: bs => by
    obtain ⟨h1, h2⟩ := can_lists bs
    obtain ⟨h3, h4⟩ := can_nums b
    constructor
    · rw [List.map_cons, PyData.canLayAll0, h1]
      unfold pdB
      rw [PyData.canLay0, h3]
      rfl
    · have e : PyData.depth (pdB b) = 1 := by
        unfold pdB
        rw [PyData.depth, h4]
      rw [List.map_cons, PyData.depthAll, e]
      omega
theorem shaped_bs (bs : List (List Nat)) : SeqAt.shaped (.list (bs.map pdB)) = true := by
  unfold SeqAt.shaped
  obtain ⟨h1, h2⟩ := can_lists bs
  rw [PyData.canLay0, h1, PyData.depth]
  exact decide_eq_true (by omega)
theorem none_out (bs : List (List Nat)) : ((bs.map pdB).any fun z => PyData.eqv z .none) = false := by
  rw [List.any_map]
  exact List.any_eq_false.mpr fun b _ => by
    show ¬ PyData.eqv (pdB b) .none = true
    unfold pdB
    simp [PyData.eqv]
/-- the block in_D leaves: a list of lists, each unlike the list that holds them -/
def Apart (D : Addr) (b : List Nat) (v : V) (H : Hp) : Prop := ∃ p, v = .ref p ∧ p ≠ D ∧ H p = some (.lst (nv b))
theorem sc_blocks_in : FnScope ["words", "blocks", "word"] ["words"] (defScope sBlocksIn) := ⟨rfl, rfl, rfl, by decide +kernel, rfl, by decide +kernel, by decide +kernel⟩
theorem ok_blocks_in (F : At K mg "blocks_in" "blocks_in" sBlocksIn) (T : Tx K w mg) (G_block_in : Cal P w K mg base CX0 2 "block_in" ["word"] (sp_block_in K)) : Cal P w K mg base CX0 3 "blocks_in" ["words"] (sp_blocks_in K) := by
  have S := sc_blocks_in
  refine F.cal S (fun _ _ _ _ _ _ us hl => match us, hl with | [_], _ => rfl) (fun vs H Q E h => ?_) (fun cdv f A outer s H vs Q E hr h => ?_)
  · obtain ⟨a, bs, rfl, _⟩ := h
    rfl
  · obtain ⟨a, bs, rfl, hS, hl, hb, q⟩ := h
    have hlen : ((bs.map blkW).map V.str).length = bs.length := by rw [List.length_map, List.length_map]
    refine ⟨_, (pss_cons (ps_setLc (i := 1) (own := [("word", 2)]) (g := gName 2) rfl S.nd rfl rfl (sw_true rfl rfl rfl (by decide +kernel)) (xpi_list K (pv 0)) (blkOk_by (by kernel_rfl)) (fun _ _ _ _ _ => (pg_name (i := 2) S.nd rfl (by first | exact Or.inl rfl | exact Or.inr rfl))) (fun _ _ _ _ _ => pts_nil) (fun _ _ _ _ _ => (pe_cc G_block_in (hr.mono (by decide)) (pa_cons (pv 2) pa_nil))))
      (pss_cons (ps_if (pt_cmpR (xop_inD K (hu65 hr)) pe_non (pv 1) rfl)
      (pss_one ps_never)
      pss_nil)
      (pss_one (ps_ret (pv 1))))), ?_⟩
    refine ⟨_, rfl, a, rfl, ⟨_, hS⟩, fun D hD => cl_list hS (fun _ => true) (fun i v H' => Apart D (bs.getD i []) v H') hD (by omega) (fun _ => rfl) (fun _ _ _ _ ⟨p, h1, h2, h3⟩ k => ⟨p, h1, h2, k.but _ _ h2 h3⟩) (fun i H2 _ _ Q q => q H2 (Ex.refl H2)) (fun i H2 acc hi _ e2 hacc Q q => ?_) (fun H' out e1 hD' hp => ?_)⟩
    · rw [hlen] at hi
      have e3 : ((bs.map blkW).map V.str).getD i .non = .str (blkW (bs.getD i [])) := by simp [List.getD_eq_getElem?_getD, hi]
      have hm : bs.getD i [] ∈ bs := by
        have e4 : bs.getD i [] = bs[i] := by simp [List.getD_eq_getElem?_getD, hi]
        rw [e4]
        exact List.getElem_mem hi
      refine ⟨_, rfl, bs.getD i [], by rw [e3]; rfl, (hb _ hm).1, (hb _ hm).2, fun p H3 np e4 hp => q _ H3 e4 ⟨p, rfl, fun z => ?_, hp⟩⟩
      rw [z, hacc] at np
      cases np
    · have hp2 : Paired (LI K H') bs out := by
        rw [hlen] at hp
        exact (paired_range (F := fun b v => Apart D b v H') hp).mono fun b v ⟨p, h1, _, h3⟩ => ⟨p, h1, .inl (.inl h3)⟩
      refine ⟨_, rfl, .none, bs.map pdB, .non, .lst (.inl (.inl hD')) (dp_lists hp2), shaped_non, shaped_bs bs, _, rfl, ?_⟩
      rw [none_out]
      exact iteF ⟨_, rfl, q _ H' e1 ⟨D, out, rfl, .inl (.inl hD'), hp2⟩⟩
/-! ### show_block(block), show_layout(layout) -/
def sp_show_block (K : PySem.W.Frag) : Sp := fun vs H Q _ => ∃ (b : List Nat) (x : V), vs = [x] ∧ TI K H b x ∧ b.length ≤ 60 ∧ (∀ p ∈ b, p < 100) ∧ ∀ H', Ex H H' → Q (.str (blkW b)) H'
theorem log_small {n : Nat} (h : n < 10000) : ((n : Nat) : Int).natAbs.log2 < 1920 := by
  rw [Int.natAbs_natCast]
  by_cases e : n = 0
  · subst e
    decide
  · have := (Nat.log2_lt e (k := 14)).mpr (by omega)
    omega
/-- the words of a block's numbers, made -/
theorem sc_show_block : FnScope ["block", "point"] ["block"] (defScope sShowBlock) := ⟨rfl, rfl, rfl, by decide +kernel, rfl, by decide +kernel, by decide +kernel⟩
theorem ok_show_block (F : At K mg "show_block" "show_block" sShowBlock) (T : Tx K w mg) : Cal P w K mg base CX0 1 "show_block" ["block"] (sp_show_block K) := by
  have S := sc_show_block
  refine F.cal S (fun _ _ _ _ _ _ us hl => match us, hl with | [_], _ => rfl) (fun vs H Q E h => ?_) (fun cdv f A outer s H vs Q E hr h => ?_)
  · obtain ⟨b, x, rfl, _⟩ := h
    rfl
  · obtain ⟨b, x, rfl, hT, hl, hb, q⟩ := h
    obtain ⟨a, rfl, hS⟩ := hT
    have hlen := nv_len b
    refine ⟨_, (pss_cons (ps_if (pt_cmpR (op_eq) (pe_callB (xlen_seq K) rfl T.len bt_len (pa_cons (pv 0) pa_nil)) pe_int (nomark _))
      (pss_one (ps_ret pe_str))
      pss_nil)
      (pss_one (ps_ret (xpe_join K pe_str (pe_lc (own := [("point", 1)]) (g := gName 1) rfl S.nd (xpi_tup K (pv 0)) (blkOk_by (by kernel_rfl)) (fun _ _ _ _ _ => (pg_name (i := 1) S.nd rfl (by first | exact Or.inl rfl | exact Or.inr rfl))) (fun _ _ _ _ _ => pts_nil) (fun _ _ _ _ _ => (pe_callTy call_str_int rfl T.str bt_str (pa_cons (pv 1) pa_nil)))))))), ?_⟩
    refine ⟨_, rfl, a, nv b, rfl, .inr hS, rfl, _, rfl, ?_⟩
    refine ite2 (fun hc => ?_) (fun hc => ?_)
    · have e := V.int.inj (of_decide_eq_true hc)
      have e2 : b = [] := by
        cases b with
        | nil => rfl
        | cons x b =>
          rw [hlen, List.length_cons] at e
          omega
      subst e2
      have z := q H (Ex.refl H)
      rw [blk_nil] at z
      exact z
    · have hne : b ≠ [] := fun z => by
        subst z
        exact hc (decide_eq_true rfl)
      refine ⟨⟨_, rfl⟩, _, rfl, a, rfl, ⟨_, hS⟩, fun D hD => cl_tup hS (fun _ => true) (fun i v _ => v = .str (natS (b.getD i 0))) hD (by omega) (fun _ => rfl) (fun _ _ _ _ h _ => h) (fun i H2 _ _ Q q => q H2 (Ex.refl H2)) (fun i H2 acc hi _ e2 _ Q q => ?_) (fun H' out e1 hD' hp => ?_)⟩
      · obtain ⟨p, _, hp, h4, h5⟩ := nv_getD hi
        refine ⟨_, rfl, (p : Int), by rw [h5], log_small (by have := hb p hp; omega), q _ H2 (Ex.refl H2) ?_⟩
        rw [h4]
        rfl
      · have eq : out = (b.map natS).map V.str := by
          rw [hlen] at hp
          rw [paired_eq (paired_range (F := fun (p : Nat) (v : V) => v = .str (natS p)) hp), List.map_map]
          rfl
        subst eq
        refine ⟨_, D, b.map natS, rfl, rfl, .inl (.inl (.inl hD')), ?_, ?_⟩
        · have := nats_sum hl hb
          have e : (Str.ofString ".").length = 1 := by decide
          rw [e]
          omega
        · have z := q H' e1
          unfold blkW at z
          rw [if_neg hne] at z
          exact z
def sp_show_layout (K : PySem.W.Frag) : Sp := fun vs H Q _ => ∃ (l : Lay) (x : V), vs = [x] ∧ LY K H l x ∧ LOk l ∧ ∀ H', Ex H H' → Q (.str (layT l)) H'
theorem sc_show_layout : FnScope ["layout", "points", "blocks", "block"] ["layout"] (defScope sShowLayout) := ⟨rfl, rfl, rfl, by decide +kernel, rfl, by decide +kernel, by decide +kernel⟩
theorem ok_show_layout (F : At K mg "show_layout" "show_layout" sShowLayout) (T : Tx K w mg) (G_show_block : Cal P w K mg base CX0 1 "show_block" ["block"] (sp_show_block K)) : Cal P w K mg base CX0 2 "show_layout" ["layout"] (sp_show_layout K) := by
  have S := sc_show_layout
  refine F.cal S (fun _ _ _ _ _ _ us hl => match us, hl with | [_], _ => rfl) (fun vs H Q E h => ?_) (fun cdv f A outer s H vs Q E hr h => ?_)
  · obtain ⟨l, x, rfl, _⟩ := h
    rfl
  · obtain ⟨l, x, rfl, hL, hO, q⟩ := h
    obtain ⟨a, b, rfl, hS, c, us, rfl, hC, hP⟩ := hL
    have hm := hO.many
    have hn := hO.most
    have hl : us.length = l.2.length := hP.length.symm
    refine ⟨_, (pss_cons (ps_asg (pv 0) (pg_tup rfl (pgs_cons (pg_name (i := 1) S.nd rfl (by first | exact Or.inl rfl | exact Or.inr rfl)) (pgs_cons (pg_name (i := 2) S.nd rfl (by first | exact Or.inl rfl | exact Or.inr rfl)) pgs_nil))))
      (pss_one (ps_ret (xpe_join K pe_str (pe_op (op_cat) (pe_lst (pa_cons (pe_joined (.cons (pe_fmt (pv 1)) (.cons pe_str .nil))) pa_nil)) (pe_lc (own := [("block", 3)]) (g := gName 3) rfl S.nd (xpi_tup K (pv 2)) (blkOk_by (by kernel_rfl)) (fun _ _ _ _ _ => (pg_name (i := 3) S.nd rfl (by first | exact Or.inl rfl | exact Or.inr rfl))) (fun _ _ _ _ _ => pts_nil) (fun _ _ _ _ _ => (pe_cc G_show_block (hr.mono (by decide)) (pa_cons (pv 3) pa_nil))))))))), ?_⟩
    refine ⟨_, rfl, a, _, rfl, hS, rfl, _, _, rfl, _, _, rfl, rfl, ?_⟩
    have e0 : (Str.empty ++ natS l.1) ++ Str.ofString ":" = natS l.1 ++ Str.ofString ":" := by
      refine TL.ext_tl ?_
      rw [TL.tl_append, TL.tl_append, TL.tl_append]
      rfl
    have hh := head_len hO
    have h3 : (Str.empty ++ natS l.1).length ≤ sizeLine := by
      rw [append_len]
      have h2 := nat_len (n := l.1) (k := 2) (by omega) (by omega)
      have e : Str.empty.length = 0 := rfl
      exact len_nat (by omega)
    refine ⟨⟨_, rfl⟩, _, rfl, .inr ⟨(l.1 : Int), rfl, log_small (by omega), _, rfl, h3, _, rfl, (by rw [show (Str.empty ++ (toString ((l.1 : Nat) : Int) : String)) ++ Str.ofString ":" = natS l.1 ++ Str.ofString ":" from e0]; exact len_nat (by omega)), by show 1 ≤ sizeLine; decide, fun o no => ?_⟩⟩
    have eo := Ex.new no (o := .lst [.str (natS l.1 ++ Str.ofString ":")])
    rw [show (Str.empty ++ (toString ((l.1 : Nat) : Int) : String)) ++ Str.ofString ":" = natS l.1 ++ Str.ofString ":" from e0]
    have hC1 := ex_t eo hC
    refine ⟨_, rfl, c, rfl, ⟨_, hC1⟩, fun D hD => cl_tup hC1 (fun _ => true) (fun i v _ => v = .str (blkW (l.2.getD i []))) hD (by omega) (fun _ => rfl) (fun _ _ _ _ h _ => h) (fun i H2 _ _ Q q => q H2 (Ex.refl H2)) (fun i H2 acc hi _ e2 _ Q q => ?_) (fun H' out e1 hD' hp => ?_)⟩
    · obtain ⟨hI, hm', _⟩ := paired_at hP hi [] .non
      have hsm := lok_small hO _ hm'
      exact ⟨_, rfl, l.2.getD i [], us.getD i .non, rfl, hI.tk (tk_of (eo.trans e2)), hsm.1, hsm.2, fun H3 e3 => q _ H3 e3 rfl⟩
    · have eq : out = (l.2.map blkW).map V.str := by
        rw [hl] at hp
        rw [paired_eq (paired_range (F := fun (b : List Nat) (v : V) => v = .str (blkW b)) hp), List.map_map]
        rfl
      subst eq
      have hlen : ((l.2.map blkW).map V.str).length = l.2.length := by rw [List.length_map, List.length_map]
      refine ⟨o, D, [.str (natS l.1 ++ Str.ofString ":")], _, rfl, rfl, e1 _ _ upd_same, hD', by rw [hlen]; exact len_nat (by show 1 + l.2.length ≤ 100000; omega), fun r nr => ?_⟩
      refine ⟨_, r, layW l, rfl, rfl, .inl (.inl (.inl upd_same)), ?_, q _ ((eo.trans e1).trans (Ex.new nr))⟩
      have := lay_sum hO
      have e : (Str.ofString " ").length = 1 := by decide
      rw [e]
      omega
/-! ### read_layout(text) -/
def sp_read_layout (K : PySem.W.Frag) : Sp := fun vs H Q _ => ∃ l : Lay, vs = [.str (layT l)] ∧ LOk l ∧ ∀ v H', Ex H H' → LY K H' l v → Q v H'
theorem lok_bases {l : Lay} (h : LOk l) : ∀ b ∈ l.2, Base l.1 b := fun b hb => ⟨(h.blk b hb).asc.nodup, (h.blk b hb).bel⟩
theorem lok_sort {l : Lay} (h : LOk l) : l.2.map sortN = l.2 := by
  conv => rhs; rw [← List.map_id l.2]
  exact List.map_congr_left fun b hb => sortN_asc (h.blk b hb).asc
theorem sc_read_layout : FnScope ["text", "words", "points"] ["text"] (defScope sReadLayout) := ⟨rfl, rfl, rfl, by decide +kernel, rfl, by decide +kernel, by decide +kernel⟩
theorem ok_read_layout (F : At K mg "read_layout" "read_layout" sReadLayout) (T : Tx K w mg) (G_layout_of : Cal P w K mg base CX0 4 "layout_of" ["points", "blocks"] (sp_layout_of K)) (G_blocks_in : Cal P w K mg base CX0 3 "blocks_in" ["words"] (sp_blocks_in K)) (G_number_in : Cal P w K mg base CX0 1 "number_in" ["word", "most"] (sp_number_in K)) : Cal P w K mg base CX0 5 "read_layout" ["text"] (sp_read_layout K) := by
  have S := sc_read_layout
  refine F.cal S (fun _ _ _ _ _ _ us hl => match us, hl with | [_], _ => rfl) (fun vs H Q E h => ?_) (fun cdv f A outer s H vs Q E hr h => ?_)
  · obtain ⟨l, rfl, _⟩ := h
    rfl
  · obtain ⟨l, rfl, hO, q⟩ := h
    have hm := hO.many
    have hn := hO.most
    have hlen := lay_len hO
    refine ⟨_, (pss_cons (ps_if (pt_not (pt_val (pe_callB (xisi K) rfl T.isinstance bt_isinstance (pa_cons (pv 0) (pa_cons (pe_bltn (v := .ty "str") rfl T.str bt_str rfl) pa_nil)))))
      (pss_one ps_never)
      pss_nil)
      (pss_cons (ps_set (i := 1) S.nd rfl (by first | exact Or.inl rfl | exact Or.inr rfl) (pe_split (pv 0) pe_str))
      (pss_cons (ps_set (i := 2) S.nd rfl (by first | exact Or.inl rfl | exact Or.inr rfl) pe_non)
      (pss_cons (ps_if (pt_cmpR (op_eq) (pe_slice sl_str (pe_ix (xix_list K) (pv 1) pe_int (fun _ _ => rfl)) (po_some (pe_un un_neg pe_int)) po_none) pe_str (nomark _))
      (pss_one (ps_set (i := 2) S.nd rfl (by first | exact Or.inl rfl | exact Or.inr rfl) (pe_cc G_number_in (hr.mono (by decide)) (pa_cons (pe_slice sl_str (pe_ix (xix_list K) (pv 1) pe_int (fun _ _ => rfl)) po_none (po_some (pe_un un_neg pe_int))) (pa_cons (pe_gint T.MOST_FIGURES_layouttexts) pa_nil)))))
      pss_nil)
      (pss_cons (ps_if (pt_cmpR (op_isN) (pv 2) pe_non (nomark _))
      (pss_one ps_never)
      pss_nil)
      (pss_one (ps_ret (pe_cc G_layout_of (hr.mono (by decide)) (pa_cons (pv 2) (pa_cons (pe_cc G_blocks_in (hr.mono (by decide)) (pa_cons (pe_slice (xsl_list K) (pv 1) (po_some pe_int) po_none) pa_nil)) pa_nil)))))))))), ?_⟩
    refine ⟨_, rfl, .str _, .ty "str", _, _, _, rfl, .ty _, .base (.str _), kit_ss, _, rfl, iteF ⟨_, rfl, ⟨_, rfl⟩, _, _, rfl, rfl, by decide, ?_, fun o no => ?_⟩⟩
    · have : sizeLine = 16777216 := sizeLine_eq
      omega
    rw [split_lay]
    have eo : Ex H (upd H o (.lst ((layW l).map V.str))) := Ex.new no
    have hW : SqL K (upd H o (.lst ((layW l).map V.str))) o ((layW l).map V.str) := .inl (.inl upd_same)
    have hh := head_len hO
    have hz : (natS l.1 ++ Str.ofString ":").length ≤ sizeLine := len_nat (by omega)
    obtain ⟨tm, hmg⟩ := T.MOST_FIGURES_layouttexts
    refine ⟨_, rfl, o, _, 0, .str (natS l.1 ++ Str.ofString ":"), rfl, rfl, hW, atI_nat (j := 0) rfl, 1, rfl, -1, rfl, _, rfl, hz, rfl, _, rfl, ifT (decide_eq_true (congrArg V.str (cut_last l.1))) ?_⟩
    refine ⟨_, rfl, o, _, 0, .str (natS l.1 ++ Str.ofString ":"), rfl, rfl, hW, atI_nat (j := 0) rfl, 1, rfl, -1, rfl, _, rfl, hz, l.1, 4, by rw [cut_front]; rfl, ?_, by omega, fun H1 e1 => ?_⟩
    · have := nat_len (n := l.1) (k := 2) (by omega) (by omega)
      omega
    have hW1 := ex_l e1 hW
    refine ⟨_, rfl, rfl, _, rfl, ifF (decide_eq_false fun z => by cases z) ⟨_, rfl, _, rfl, 1, rfl, o, _, rfl, hW1, fun r nr => ?_⟩⟩
    have e2 := Ex.new nr (o := .lst (cutV ((layW l).map V.str) (some 1) none))
    have ec : cutV ((layW l).map V.str) (some 1) none = (l.2.map blkW).map V.str := by
      unfold cutV layW
      rw [show HT.sIx ((((natS l.1 ++ Str.ofString ":") :: l.2.map blkW).map V.str).length) 0 (some 1) = min 1 _ from HT.sIx_nat _ 0 1, HT.sIx_none, List.map_cons, List.length_cons]
      have e5 : min 1 (((l.2.map blkW).map V.str).length + 1) = 1 := by omega
      rw [e5, Nat.add_sub_cancel]
      exact List.take_length
    rw [ec] at e2 ⊢
    refine ⟨r, l.2, rfl, .inl (.inl upd_same), hm, lok_small hO, fun v H2 e3 hv => ?_⟩
    refine ⟨l.1, l.2, v, rfl, hv, hO.pos, hn, hm, lok_bases hO, fun v2 H3 e4 hv2 => ?_⟩
    rw [lok_sort hO] at hv2
    exact q v2 H3 ((((eo.trans e1).trans e2).trans e3).trans e4) hv2
end
end EM
set_option Elab.async false
set_option linter.all false
set_option maxRecDepth 100000
set_option maxHeartbeats 2000000
/-! A desk's state, told by a function of names. -/
namespace EM
open PySem PySem.Spec PyProof.Rows L2 Evl
abbrev Ks : Type := Str → Option Lay
def putS (f : Ks) (n : Str) (l : Lay) : Ks := fun m => if m = n then some l else f m
/-- the dict kvs holds f, its keys among ns -/
structure Kr (K : PySem.W.Frag) (H : Hp) (kvs : List (Key × V)) (f : Ks) (ns : List Str) : Prop where
  val : ∀ n, (f n = none ∧ valV kvs (Sum.inr n : Key) = none) ∨ ∃ l v, f n = some l ∧ valV kvs (Sum.inr n : Key) = some v ∧ LY K H l v
  keys : ∃ ks : List Str, kvs.map (·.1) = ks.map (fun n => (Sum.inr n : Key)) ∧ ks.Nodup ∧ ∀ n ∈ ks, n ∈ ns
theorem str_nodup_len : ∀ (l D : List Str), l.Nodup → (∀ x ∈ l, x ∈ D) → l.length ≤ D.length
  | [], _, _, _ => Nat.zero_le _
  | x :: l, D, h, hs => by
    obtain ⟨h1, h2⟩ := List.nodup_cons.mp h
    have hx := hs x List.mem_cons_self
    have ih := str_nodup_len l (D.erase x) h2 fun y hy => (List.mem_erase_of_ne (fun e : y = x => h1 (by rw [← e]; exact hy))).mpr (hs y (List.mem_cons_of_mem _ hy))
    rw [List.length_erase_of_mem hx] at ih
    have pos := List.length_pos_of_mem hx
    rw [List.length_cons]
    omega
section
variable {K : PySem.W.Frag} {H H' : Hp} {kvs : List (Key × V)} {f : Ks} {ns : List Str}
theorem Kr.len (h : Kr K H kvs f ns) : kvs.length ≤ ns.length := by
  obtain ⟨ks, h1, h2, h3⟩ := h.keys
  have e := congrArg List.length h1
  rw [List.length_map, List.length_map] at e
  rw [e]
  exact str_nodup_len ks ns h2 h3
theorem Kr.tk (h : Kr K H kvs f ns) (e : TK H H') : Kr K H' kvs f ns := ⟨fun n => by
  rcases h.val n with q | ⟨l, v, h1, h2, h3⟩
  · exact .inl q
  · exact .inr ⟨l, v, h1, h2, h3.tk e⟩, h.keys⟩
theorem Kr.none (h : Kr K H kvs f ns) {n : Str} (e : f n = none) : valV kvs (Sum.inr n : Key) = none := by
  rcases h.val n with q | ⟨l, v, h1, _⟩
  · exact q.2
  · rw [e] at h1
    cases h1
theorem Kr.some (h : Kr K H kvs f ns) {n : Str} {l : Lay} (e : f n = some l) : ∃ v, valV kvs (Sum.inr n : Key) = some v ∧ LY K H l v := by
  rcases h.val n with q | ⟨l', v, h1, h2, h3⟩
  · rw [q.1] at e
    cases e
  · rw [h1] at e
    cases e
    exact ⟨v, h2, h3⟩
theorem kr_nil : Kr K H [] (fun _ => none) ns := ⟨fun _ => .inl ⟨rfl, rfl⟩, [], rfl, List.nodup_nil, fun _ h => by cases h⟩
theorem key_mem {k : Key} (h : valV kvs k = none) : k ∉ kvs.map (·.1) := fun m => by
  have e := valV_any k kvs
  rw [h] at e
  obtain ⟨p, hp, rfl⟩ := List.mem_map.mp m
  have z := List.any_eq_false.mp e p hp
  simp at z
theorem put_keys {k : Key} {v x : V} (h : valV kvs k = some x) : (putK kvs k v).map (·.1) = kvs.map (·.1) := by
  unfold putK
  rw [valV_any, h]
  simp only [Option.isSome_some, if_true]
  rw [List.map_map]
  exact List.map_congr_left fun p _ => by
    show (if p.1 = k then (p.1, v) else p).1 = p.1
    split <;> rfl
theorem Kr.put (h : Kr K H kvs f ns) {n : Str} {l : Lay} {v : V} (hn : n ∈ ns) (e : TK H H') (hv : LY K H' l v) : Kr K H' (putK kvs (Sum.inr n : Key) v) (putS f n l) ns := by
  refine ⟨fun m => ?_, ?_⟩
  · rw [valV_put]
    by_cases hm : m = n
    · subst hm
      exact .inr ⟨l, v, if_pos rfl, if_pos rfl, hv⟩
    · have e1 : ¬ (Sum.inr m : Key) = Sum.inr n := fun z => hm (Sum.inr.inj z)
      have e2 : putS f n l m = f m := if_neg hm
      rw [if_neg e1, e2]
      exact (h.tk e).val m
  · obtain ⟨ks, h1, h2, h3⟩ := h.keys
    cases q : valV kvs (Sum.inr n : Key) with
    | none =>
      have nm := key_mem q
      rw [putK_new _ q]
      refine ⟨ks ++ [n], by rw [List.map_append, List.map_append, h1]; rfl, ?_, fun x hx => ?_⟩
      · rw [List.nodup_append]
        refine ⟨h2, by simp, fun a ha b hb z => ?_⟩
        rw [List.mem_singleton] at hb
        subst hb
        subst z
        apply nm
        rw [h1]
        exact List.mem_map.mpr ⟨_, ha, rfl⟩
      · rcases List.mem_append.mp hx with hx | hx
        · exact h3 x hx
        · rw [List.mem_singleton] at hx
          rw [hx]
          exact hn
    | some x => exact ⟨ks, (put_keys q).trans h1, h2, h3⟩
end
/-- what a row's deed makes -/
inductive Does (f : Ks) : Row → Lay → Prop
  | put {n : Str} {l : Lay} (ok : LOk l) : Does f (.put n l) l
  | comp {n m : Str} {l : Lay} (h : f m = some l) (ok : LOk l) : Does f (.one false n m) (compF l)
  | dual {n m : Str} {l : Lay} (h : f m = some l) (ok : LOk l) (h1 : 0 < l.2.length) : Does f (.one true n m) (dualF l)
  | pat {n m : Str} {l : Lay} {p : Nat} (h : f m = some l) (ok : LOk l) (hp : p < l.1) (h2 : 2 ≤ l.1) : Does f (.pt false n m p) (atF l p)
  | poff {n m : Str} {l : Lay} {p : Nat} (h : f m = some l) (ok : LOk l) (hp : p < l.1) (h2 : 2 ≤ l.1) : Does f (.pt true n m p) (offF l p)
  | turn {n : Str} {k : Nat} {bs : List (List Nat)} (h1 : 1 ≤ k) (h2 : k ≤ 20) (h3 : bs.length ≤ 3) (h0 : bs ≠ []) (hb : ∀ b ∈ bs, Base k b) : Does f (.turn n k bs) (devF k bs)
theorem Does.ok {f : Ks} {r : Row} {l : Lay} (h : Does f r l) : LOk l := by
  cases h with
  | put ok => exact ok
  | comp h ok => exact comp_ok ok
  | dual h ok h1 => exact dual_ok ok h1
  | pat h ok hp h2 => exact keptR_ok ok hp h2
  | poff h ok hp h2 => exact keptR_ok ok hp h2
  | turn h1 h2 h3 h0 hb => exact dev_ok h1 h2 h3 hb
def Row.first : Row → Str
  | .put n _ => n
  | .one _ n _ => n
  | .pt _ n _ _ => n
  | .turn n _ _ => n
  | .tell n => n
end EM
set_option Elab.async false
set_option linter.all false
set_option maxRecDepth 100000
set_option maxHeartbeats 2000000
/-! len(set(texts)) where texts may be alike; a dict == {}. -/
namespace EM
open PySem PySem.Spec PyProof.Rows
/-- a text added to those met -/
def uq1 (l : List Str) (v : Str) : List Str := if l.any (· == v) then l else l ++ [v]
def uq (l : List Str) : List Str := l.foldl uq1 []
theorem uq_snoc (l : List Str) (v : Str) : uq (l ++ [v]) = uq1 (uq l) v := by
  unfold uq
  rw [List.foldl_append]
  rfl
theorem uq1_any (l : List Str) (v k : Str) : (uq1 l v).any (· == k) = (l.any (· == k) || decide (k = v)) := by
  unfold uq1
  by_cases h : l.any (· == v) = true
  · rw [if_pos h]
    by_cases e : k = v
    · subst e
      rw [h]
      simp
    · simp [e]
  · rw [if_neg h, List.any_append]
    by_cases e : k = v
    · subst e
      simp
    · have hb : (v == k) = false := beq_eq_false_iff_ne.mpr fun z => e z.symm
      simp [hb, e]
theorem uq1_len (l : List Str) (v : Str) : (uq1 l v).length = if l.any (· == v) then l.length else l.length + 1 := by
  unfold uq1
  split <;> simp
theorem foldl_len : ∀ (l acc : List Str), (l.foldl uq1 acc).length ≤ acc.length + l.length
  | [], acc => by simp
  | v :: l, acc => by
    have h := foldl_len l (uq1 acc v)
    have h1 := uq1_len acc v
    rw [List.foldl_cons, List.length_cons]
    split at h1 <;> omega
theorem uq_len (l : List Str) : (uq l).length ≤ l.length := by
  have h := foldl_len l []
  simpa [uq] using h
theorem uq_mem (l : List Str) : ∀ (acc : List Str) (x : Str), x ∈ l.foldl uq1 acc ↔ x ∈ acc ∨ x ∈ l := by
  induction l with
  | nil => intro acc x; simp
  | cons v l ih =>
    intro acc x
    rw [List.foldl_cons, ih]
    have e : x ∈ uq1 acc v ↔ x ∈ acc ∨ x = v := by
      unfold uq1
      split
      · rename_i h
        obtain ⟨y, hy, e⟩ := List.any_eq_true.mp h
        have e2 : y = v := eq_of_beq e
        subst e2
        constructor
        · exact .inl
        · rintro (z | z)
          · exact z
          · rw [z]; exact hy
      · rw [List.mem_append, List.mem_singleton]
    rw [e, List.mem_cons]
    constructor
    · rintro ((z | z) | z)
      · exact .inl z
      · exact .inr (.inl z)
      · exact .inr (.inr z)
    · rintro (z | z | z)
      · exact .inl (.inl z)
      · exact .inl (.inr z)
      · exact .inr z
theorem foldl_nodup : ∀ (l acc : List Str), acc.Nodup → (l.foldl uq1 acc).length = acc.length + l.length → (acc ++ l).Nodup
  | [], acc, h, _ => by simpa using h
  | v :: l, acc, h, e => by
    have h1 := uq1_len acc v
    have h2 := foldl_len l (uq1 acc v)
    rw [List.foldl_cons, List.length_cons] at e
    by_cases q : acc.any (· == v) = true
    · rw [if_pos q] at h1
      omega
    · rw [if_neg q] at h1
      have e3 : uq1 acc v = acc ++ [v] := if_neg q
      have nv : v ∉ acc := fun m => q (List.any_eq_true.mpr ⟨v, m, beq_self_eq_true v⟩)
      have n2 : (acc ++ [v]).Nodup := by
        rw [List.nodup_append]
        refine ⟨h, by simp, fun a ha b hb => ?_⟩
        rw [List.mem_singleton] at hb
        subst hb
        exact fun z => nv (by rw [← z]; exact ha)
      have r := foldl_nodup l (uq1 acc v) (by rw [e3]; exact n2) (by omega)
      rw [e3, List.append_assoc] at r
      exact r
/-- as many as there are: all unlike -/
theorem uq_nodup {l : List Str} (h : l.length ≤ (uq l).length) : l.Nodup := by
  have e := uq_len l
  have r := foldl_nodup l [] List.nodup_nil (by
    show (uq l).length = _
    simp
    omega)
  simpa using r
section
variable {prog : Program} {w : World} {A : Around} {R : Result → Shared → Prop} {I : Addr} {fp wr : List Addr} {G : Array GenState → Array GenState → Prop} {n : Nat} {P : Nat → Value → Prop} {St : Nat → Shared → Prop}
theorem loopTxt (W : WalksS prog w A.in1 I fp wr G n P St) (S : Addr) (hSf : S ∉ fp) (xs : List Str) (hsz : xs.length = n) (hn1 : n ≤ 1000)
    (hval : ∀ i v, P i v → ∃ t, v = .str (xs.getD i Str.empty) t) :
    ∀ (k i : Nat) (s : Shared), n - i = k → i ≤ n → St i s →
      s.heap.SetOf (PySem.strKind prog w) S (fun k' => (uq (xs.take i)).any (· == k')) (uq (xs.take i)).length →
      (∀ s', Moved (S :: wr) G s s' → s'.heap.SetOf (PySem.strKind prog w) S (fun k' => (uq (xs.take n)).any (· == k')) (uq (xs.take n)).length → R (.ok (.ret .none)) s') →
      codeAny (model prog w) A (.builtin "set.update.loop" ⟨[.ref S, .ref I], []⟩) R s := by
  have hSw : S ∉ wr := fun h => hSf (W.sub _ h)
  have hsub : ∀ b ∈ wr, b ∈ S :: wr := fun b hb => List.mem_cons_of_mem _ hb
  intro k
  induction k with
  | zero =>
    intro i s hk hi hst hS hR
    have hin : i = n := by omega
    subst hin
    refine codeAny_builtin PyProof.Rows.F.entry_set_update_loop ?_
    rw [Around.under_plainId PyProof.Rows.F.plain_set_update_loop _]
    show wpAny _ A.in1 (pyNext (.ref I) >>= _) _ _ s
    refine wpAny_bind (W.done s _ _ hst fun s' hm => ?_)
    show wpAny _ A.in1 (ret Value.none) _ _ s'
    exact wpAny_pure (hR s' (hm.mono hsub) (by
      obtain ⟨o, es, ep, t, ho, rest⟩ := hS
      exact ⟨o, es, ep, t, hm.heap S _ hSw ho, rest⟩))
  | succ k ih =>
    intro i s hk hi hst hS hR
    have hlt : i < n := by omega
    refine codeAny_builtin PyProof.Rows.F.entry_set_update_loop ?_
    rw [Around.under_plainId PyProof.Rows.F.plain_set_update_loop _]
    show wpAny _ A.in1 (pyNext (.ref I) >>= _) _ _ s
    refine wpAny_bind (W.item i s _ _ hlt hst fun v s' hP hst' hm => ?_)
    obtain ⟨t, rfl⟩ := hval i v hP
    have hS' : s'.heap.SetOf (PySem.strKind prog w) S (fun k' => (uq (xs.take i)).any (· == k')) (uq (xs.take i)).length := by
      obtain ⟨o, es, ep, tb, ho, rest⟩ := hS
      exact ⟨o, es, ep, tb, hm.heap S _ hSw ho, rest⟩
    show wpAny _ A.in1 (holding [Value.str (xs.getD i Str.empty) t] (setAdd S (.str (xs.getD i Str.empty) t)) >>= _) _ _ s'
    refine wpAny_bind (wpAny_holding ?_)
    unfold setAdd
    refine wpAny_holding ?_
    refine wpAny_bind ((PySem.strKind prog w).pyHash (k := xs.getD i Str.empty) (strKind_is _ _ _ _) ?_)
    have hlx : i < xs.length := by omega
    have etk : xs.take (i + 1) = xs.take i ++ [xs.getD i Str.empty] := by
      rw [List.take_add_one, List.getElem?_eq_getElem hlx]
      simp [List.getD_eq_getElem?_getD, hlx]
    have hroom : (uq (xs.take i)).length + 1 < scanBound := by
      have z := uq_len (xs.take i)
      rw [List.length_take] at z
      unfold scanBound
      omega
    refine wpAny_setAddHashed_of (knd := PySem.strKind prog w) (s := { s' with toks := s'.toks + 1 }) (strKind_is _ _ _ _) rfl hS' hroom fun h' hsb hS2 => ?_
    have hSi : h'.SetOf (PySem.strKind prog w) S (fun k' => (uq (xs.take (i + 1))).any (· == k')) (uq (xs.take (i + 1))).length :=
      SetOf_congr hS2 (fun k' => by rw [etk, uq_snoc, uq1_any]) (by rw [etk, uq_snoc, uq1_len])
    refine wpAny_pure ⟨plainId_quiet PyProof.Rows.F.plain_set_update_loop _, ih (i + 1) _ (by omega) hlt (W.frame _ s' _ _ hst' (Nat.le_succ _) fun b hb o e => ?_) hSi fun s'' hm'' hS'' => ?_⟩
    · rw [hsb.2 b (fun h : b = S => hSf (by rw [← h]; exact hb))]; exact e
    · refine hR s'' (Moved.trans W.gtrans ((hm.mono hsub).then_heap (Nat.le_succ _) fun b o hb e => ?_) hm'') hS''
      rw [hsb.2 b (fun h : b = S => hb (by rw [h]; exact List.mem_cons_self))]; exact e
end

section
variable {prog : Program} {w : World} {A : Around} {E : Value → Shared → Prop} {s : Shared}
set_option maxHeartbeats 3200000 in
theorem call_set_texts {l : Addr} {items : Array Value} {xs : List Str} {Q : Value → Shared → Prop}
    (hh : A.handled = none) (hl : s.heap.IsList l items) (hi : PyProof.Rows.StrsAre items.toList xs) (hn1 : xs.length ≤ 1000)
    (h : ∀ (h' : Heap) (tk : Nat), h'.SetOf (PySem.strKind prog w) s.heap.objs.size (fun k' => (uq (xs.take items.size)).any (· == k')) (uq (xs.take items.size)).length →
      (∀ b o, b < s.heap.objs.size → s.heap.get? b = some o → h'.get? b = some o) → Q (.ref s.heap.objs.size) { s with heap := h', toks := tk }) :
    wpAny (model prog w) A (call (.type "set") [.ref l]) Q E s := by
  obtain ⟨c, tl, hmro⟩ := PySem.F.called_set.mro
  have hmade := PySem.F.called_set.made
  have hsub := PySem.F.called_set.sub
  refine wpAny_call (codeAny_of_tree ?_)
  show wpAny _ _ (callAny (.type "set") _) _ _ _
  refine wpAny_pure ⟨Code.quiet_builtin _ (by decide +kernel), codeAny_builtin PySem.F.entry_type_call ?_⟩
  rw [Around.under_plain (weight_type_call_type "set" [.ref l] []) rfl]
  have h1 := PySem.F.called_set.notType
  have h2 := PySem.F.called_set.canCreate
  have hct := PySem.F.typeCall_set_1 (.ref l)
  repeat (any_goals (first | assumption | wp_step))

  refine codeAny_mono (code_set_new_1 (.ref l) (E := E) (Q₁ := fun obj s₁ => ∃ led : Bool, obj = .ref s.heap.objs.size ∧ s₁ = { s with heap := s.heap.push { cls := .type "set", dict := none, data := .set #[] 0 (.fresh 0 0 led) } }) fun led => ⟨led, rfl, rfl⟩) fun r s₁ hr => ?_
  cases r with
  | error e => exact hr
  | ok fl =>
    cases fl with
    | ret obj =>
      obtain ⟨led, rfl, rfl⟩ := hr
      have hS : (s.heap.push { cls := .type "set", dict := none, data := .set #[] 0 (.fresh 0 0 led) }).get? s.heap.objs.size = some { cls := .type "set", dict := none, data := .set #[] 0 (.fresh 0 0 led) } := Heap.get?_push_size _ rfl
      have hT : Shared.TypeIs { s with heap := s.heap.push { cls := .type "set", dict := none, data := .set #[] 0 (.fresh 0 0 led) } } (.ref s.heap.objs.size) "set" := ⟨_, hS, rfl⟩
      have hli := PySem.F.called_set.init.lookup
      have hbi := PySem.F.called_set.init.bind (.ref s.heap.objs.size)
      repeat (any_goals (first | assumption | wp_step))

      refine codeAny_mono (codeAny_call_builtin (R := wants (fun r s₂ => r = .none ∧ ∃ h' tk, s₂ = { s with heap := h', toks := tk } ∧
          h'.SetOf (PySem.strKind prog w) s.heap.objs.size (fun k' => (uq (xs.take items.size)).any (· == k')) (uq (xs.take items.size)).length ∧
          (∀ b o, b < s.heap.objs.size → s.heap.get? b = some o → h'.get? b = some o)) E) PySem.F.called_set.init.plain PySem.F.entry_set_init (check_set_init_1 hT ?_)) fun r₂ s₂ hr₂ => ?_
      · obtain ⟨ol, hol, hcl, nl, hdl⟩ := hl
        obtain ⟨ocls, odict, odata, oslots⟩ := ol
        simp only at hcl hdl
        subst hcl; subst hdl
        have hol' : (s.heap.push { cls := .type "set", dict := none, data := .set #[] 0 (.fresh 0 0 led) }).get? l = some { cls := .type "list", dict := odict, data := .seq items nl, slots := oslots } := Heap.get?_push_of_some _ hol
        have hsls := PySem.F.sub_list_set
        have hslf := PySem.F.sub_list_frozenset
        have hne : (Value.type "list" == Value.type "dict") = false := by decide
        have hl1 : (s.heap.push { cls := .type "set", dict := none, data := .set #[] 0 (.fresh 0 0 led) }).IsList l items := ⟨_, hol', rfl, nl, rfl⟩
        unfold Builtin.«set.__init__» noKeywords Builtin.Frozenset.updateFrom
        generalize hPI : pyIter = PI
        wp_walk
        subst hPI

        refine wpAny_pyIter_list hl1 ?_
        refine wpAny_bind (wpAny_runValue ?_)
        have hlS : l < s.heap.objs.size := Heap.lt_size hol
        have hh3 : A.in1.in1.in1.handled = none := by simp [hh]
        have hneI : l ≠ (s.heap.push { cls := .type "set", dict := none, data := .set #[] 0 (.fresh 0 0 led) }).objs.size := by
          rw [Heap.size_push]; exact Nat.ne_of_lt (Nat.lt_succ_of_lt hlS)
        have hSf : s.heap.objs.size ∉ [(s.heap.push { cls := .type "set", dict := none, data := .set #[] 0 (.fresh 0 0 led) }).objs.size, l] := by
          rw [Heap.size_push]; simp only [List.mem_cons, List.mem_singleton, List.not_mem_nil, or_false, not_or]
          exact ⟨Nat.ne_of_lt (Nat.lt_succ_self _), Nat.ne_of_gt hlS⟩
        have hsz : xs.length = items.size := by rw [← StrsAre.len_eq hi, Array.length_toList]
        have hval : ∀ (i : Nat) (v : Value), items[i]? = some v → ∃ t, v = .str (xs.getD i Str.empty) t := fun i v hv => SS.strs_at hi i v (by rw [Array.getElem?_toList]; exact hv)
        refine loopTxt ((Walks.list hh3 _ l hneI items).toS) s.heap.objs.size
          hSf xs hsz (by rw [← hsz]; exact hn1) hval (items.size - 0) 0 _ (by omega) (Nat.zero_le _)
          ⟨⟨_, Heap.get?_push_size _ rfl, rfl, rfl⟩, (hl1.push _)⟩ ?hS0 ?hR
        case hS0 =>
          have hget : ((s.heap.push { cls := .type "set", dict := none, data := .set #[] 0 (.fresh 0 0 led) }).push { cls := .type "list_iterator", data := .fields #[.ref l, .int 0 0] }).get? s.heap.objs.size
              = some { cls := .type "set", dict := none, data := .set #[] 0 (.fresh 0 0 led) } := Heap.get?_push_of_some _ hS
          exact PyProof.Rows.SetOf_congr ((PyProof.Rows.setObjOf_fresh (knd := PySem.strKind prog w) led).setOf hget (by unfold scanBound; omega)) (fun _ => rfl) rfl
        case hR =>
          intro s' hm hS'
          obtain ⟨h', g', d', tk', os'⟩ := s'
          have eg : g' = s.gens := hm.gens
          have ed : d' = s.drawn := hm.drawn
          have eo : os' = s.os := hm.os
          subst eg; subst ed; subst eo
          show wpAny _ _ _ _ _ _
          refine wpAny_pure ?_
          show wpAny _ _ (ret Value.none) _ _ _
          refine wpAny_pure ⟨rfl, h', tk', rfl, hS', fun b o hb e => ?_⟩
          have hb1 : b ≠ s.heap.objs.size := Nat.ne_of_lt hb
          have hb2 : b ≠ (s.heap.push { cls := .type "set", dict := none, data := .set #[] 0 (.fresh 0 0 led) }).objs.size := by
            rw [Heap.size_push]; exact Nat.ne_of_lt (Nat.lt_succ_of_lt hb)
          exact hm.heap b o (by simp only [List.mem_cons, List.mem_singleton, List.not_mem_nil, or_false, not_or]; exact ⟨hb1, hb2⟩) (Heap.get?_push_of_some _ (Heap.get?_push_of_some _ e))

      · cases r₂ with
        | error e => exact hr₂
        | ok fl₂ =>
          cases fl₂ with
          | ret r =>
            obtain ⟨rfl, h', tk, rfl, hS', hk'⟩ := hr₂
            repeat (any_goals (first | assumption | wp_step))
            exact h _ _ hS' hk'
          | _ => exact hr₂.elim
    | _ => exact hr.elim

end
open L2 Evl
def tLenSetS (K : PySem.W.Frag) (ta : TE) : TE := fun σ H Q => ta σ H fun x H1 => ∃ (l : Addr) (xs : List Str), x = .ref l ∧ SqL K H1 l (xs.map V.str) ∧ xs.length ≤ 1000 ∧ Q (.int ((uq xs).length : Nat)) H1
theorem pe_lenSetS {X : Cx} {a : Expr} {ta : TE} {p p2 q pos : Pos} (hg : Gl X "len") (hm : X.mg "len" = none) (hg2 : Gl X "set") (hm2 : X.mg "set" = none) (ha : PE X a ta) (hc : X.calm = true := by rfl)
    (na : starEach [a] X.env = (false, eval a X.env) :: starEach [] X.env := by rfl) : PE X (.Call (.Name "len" p) [.Call (.Name "set" p2) [a] [] q] [] pos) (tLenSetS X.K ta) := by
  refine ⟨fun pins s σ H Q I h => ?_⟩
  refine Call_ (ld_blt I hg hm boot_len ?_)
  refine PyProof.Rows.callWith_builtin1 (PyProof.Rows.args_cons ?_ rfl) rfl rfl
  refine Call_ (ld_blt I hg2 hm2 boot_set ?_)
  refine PyProof.Rows.callWith_type1 (PyProof.Rows.args_cons (thn (ha.run pins s σ H _ I h) fun v s1 ⟨x, H1, I1, r1, q1⟩ => PyProof.Rows.args_nil ?_) na) na rfl
  obtain ⟨l, xs, rfl, hq, hl, q1⟩ := q1
  cases r1
  obtain ⟨its, r, pl, hz⟩ := I1.list hq
  have hlen : its.toArray.size = xs.length := by rw [List.size_toArray, ← r.length, List.length_map]
  refine call_set_texts (I1.ok.hd hc) pl.isList (by simpa using strsAre_of r) hl fun h' tk hS hk => ?_
  refine PyProof.Rows.args_nil ?_
  rw [hlen, List.take_length] at hS
  have hd4 := uq_len xs
  obtain ⟨o, es, ep, t, ho, hex, hd, _, _, _, hf, hn⟩ := hS
  have I2 : Inv X pins σ H1 { s1 with heap := h', toks := tk } := I1.kept fun b o e => hk b o (Heap.lt_size e) e
  exact call_len_set ho hex hd hf (by rw [hn] <;> omega) ⟨.int (uq xs).length, H1, I2.tok _, ⟨_, by rw [hn]⟩, q1⟩
/-! ### a dict == {} -/
theorem op_eqE {X : Cx} (hu : X.A.units < cLine) : OpR X (compareOp .Eq) (fun x y H Q => ∃ a b kvs, x = .ref a ∧ y = .ref b ∧ H a = some (.dK kvs) ∧ H b = some (.dK []) ∧ Q (.bl kvs.isEmpty) H) := by
  intro pins s σ H x y v u Q I rx ry h
  obtain ⟨a, b, kvs, rfl, rfl, ea, eb, q⟩ := h
  obtain rfl : v = Value.ref a := rx
  obtain rfl : u = Value.ref b := ry
  obtain ⟨_, ya, va, ra, da⟩ := (show ObjOk X.prog X.w H s.heap a (.dK kvs) from I.hok a _ ea)
  obtain ⟨_, yb, vb, rb, db⟩ := (show ObjOk X.prog X.w H s.heap b (.dK []) from I.hok b _ eb)
  have hb : vb.length = 0 := rb.length.symm
  have ha := ra.length
  have e : vb = [] := List.eq_nil_of_length_eq_zero hb
  subst e
  refine PySem.W.keq_eq (knd := mixKind X.prog X.w) (r := true) ya yb da db hu (fun hl => ?_) (fin_bl I q ?_)
  · have e2 : va = [] := List.eq_nil_of_length_eq_zero hl
    subst e2
    exact .nil
  · cases kvs with
    | nil =>
      have e2 : va = [] := List.eq_nil_of_length_eq_zero ha.symm
      subst e2
      rfl
    | cons p r =>
      cases va with
      | nil => cases ha
      | cons _ _ => rfl
end EM
set_option Elab.async false
set_option linter.all false
set_option maxRecDepth 100000
set_option maxHeartbeats 2000000
namespace EM
open PySem PySem.Spec PyProof.Rows L2 Evl
/-- a statement and what follows: the states between told first -/
theorem seq_first {t u : TS} {D : Ends} {σ : L2.St} {H : Hp} (G : L2.St → Hp → Prop) (hG : ∀ σ' H', G σ' H' → u D σ' H') (h : (∀ σ' H', G σ' H' → u D σ' H') → t { D with nx := u D } σ H) : tSeq t u D σ H := h hG
theorem asg_c {v : V} {i : Nat} {u : TS} {D : Ends} {σ : L2.St} {H : Hp} (h : u D (σ.set i (some v)) H) : tSeq (tAsg (tC v) (gName i)) u D σ H := h
theorem cmulL {i j : Int} (h : i.natAbs < 2 ^ 64) : CMul i j := .inl (by omega)
theorem cmulR {i j : Int} (h : j.natAbs < 2 ^ 64) : CMul i j := .inr (by omega)
theorem cutV_take0 (xs : List V) (k : Nat) : cutV xs none (some (k : Int)) = xs.take k := by
  unfold cutV
  rw [HT.sIx_none, show HT.sIx xs.length xs.length (some (k : Int)) = min k xs.length from HT.sIx_nat _ _ _, List.drop_zero, Nat.sub_zero]
  by_cases h : k ≤ xs.length
  · rw [Nat.min_eq_left h]
  · have e : min k xs.length = xs.length := Nat.min_eq_right (by omega)
    rw [e, List.take_length, List.take_of_length_le (by omega)]
theorem cutV_mid (xs : List V) (k m : Nat) : cutV xs (some (k : Int)) (some (m : Int)) = (xs.drop k).take (m - k) := by
  unfold cutV
  rw [show HT.sIx xs.length xs.length (some (m : Int)) = min m xs.length from HT.sIx_nat _ _ _, show HT.sIx xs.length 0 (some (k : Int)) = min k xs.length from HT.sIx_nat _ _ _]
  by_cases h : k ≤ xs.length
  · rw [Nat.min_eq_left h]
    by_cases h2 : m ≤ xs.length
    · rw [Nat.min_eq_left h2]
    · rw [Nat.min_eq_right (show xs.length ≤ m by omega)]
      rw [List.take_of_length_le (by rw [List.length_drop]; exact Nat.le_refl _), List.take_of_length_le (by rw [List.length_drop]; omega)]
  · rw [Nat.min_eq_right (show xs.length ≤ k by omega)]
    rw [List.drop_of_length_le (Nat.le_refl _), List.drop_of_length_le (show xs.length ≤ k by omega)]
    simp
/-- ints as values -/
def iv (l : List Int) : List V := l.map V.int
theorem iv_len (l : List Int) : (iv l).length = l.length := List.length_map ..
theorem iv_getD {l : List Int} {i : Nat} (h : i < (iv l).length) : (iv l).getD i .non = .int (l.getD i 0) := by
  rw [iv_len] at h
  simp [iv, List.getD_eq_getElem?_getD, h]
theorem atI_ge {xs : List V} {k : Nat} {v : V} (h : xs[k]? = some v) : atI xs (k : Int) = some v := atI_nat (j := k) h
theorem slA_of {K : PySem.W.Frag} {H : Hp} {Q : VK} {a : Addr} {xs : List V} {lo hi : Option Int} (hS : SqT K H a xs) (h : ∀ p H', Ex H H' → SqT K H' p (cutV xs lo hi) → Q (.ref p) H') : rSlA K (.ref a) lo hi H Q :=
  ⟨a, xs, rfl, hS, fun hc => h a H (Ex.refl H) (by
    unfold cutV
    rw [hc.1, hc.2, List.drop_zero, Nat.sub_zero, List.take_length]
    exact hS), fun _ p hp => h p _ (Ex.new hp) (.inl (.inl upd_same))⟩
theorem catA_of {K : PySem.W.Frag} {H : Hp} {Q : VK} {a b : Addr} {xs ys : List V} (ha : SqT K H a xs) (hb : SqT K H b ys) (hz : xs.length + ys.length ≤ sizeLine) (h : ∀ p H', Ex H H' → SqT K H' p (xs ++ ys) → Q (.ref p) H') : rCatA K (.ref a) (.ref b) H Q :=
  ⟨a, b, xs, ys, rfl, rfl, ha, hb, hz, fun e => h b H (Ex.refl H) (by rw [e]; exact hb), fun _ e => h a H (Ex.refl H) (by rw [e, List.append_nil]; exact ha), fun _ _ p hp => h p _ (Ex.new hp) (.inl (.inl upd_same))⟩
theorem nv_drop (b : List Nat) (k : Nat) : (nv b).drop k = nv (b.drop k) := (List.map_drop ..).symm
theorem nv_take (b : List Nat) (k : Nat) : (nv b).take k = nv (b.take k) := (List.map_take ..).symm
end EM
set_option Elab.async false
set_option linter.all false
set_option maxRecDepth 100000
set_option maxHeartbeats 2000000
namespace EM
open PySem PySem.Spec PyProof.Rows L2 Evl
theorem t_put : TL.tl ("put " : Str) = TL.tl ("put" : Str) ++ [32] := by decide +kernel
theorem t_turned : TL.tl ("turned " : Str) = TL.tl ("turned" : Str) ++ [32] := by decide +kernel
theorem t_show : TL.tl ("show " : Str) = TL.tl ("show" : Str) ++ [32] := by decide +kernel
theorem t_blank : TL.tl (" " : Str) = [32] := by decide +kernel
theorem text_put (n : Str) (l : Lay) : (("put " : Str) ++ n) ++ (" " : Str) ++ layT l = (Row.put n l).text := by
  show _ = Txt.join (Str.ofString " ") (("put" : Str) :: n :: layW l)
  rw [join_cons (by simp), join_cons (by simp [layW])]
  refine TL.ext_tl ?_
  simp only [TL.tl_append, t_put, t_blank, tl_blank, List.append_assoc]
  rfl
theorem text_turn (n : Str) (k : Nat) {bs : List (List Nat)} (h : bs ≠ []) : (((("turned " : Str) ++ n) ++ (" " : Str)) ++ natS k) ++ (" " : Str) ++ basT bs = (Row.turn n k bs).text := by
  show _ = Txt.join (Str.ofString " ") (("turned" : Str) :: n :: natS k :: bs.map blkW)
  rw [join_cons (by simp), join_cons (by simp), join_cons (by simpa using h)]
  refine TL.ext_tl ?_
  simp only [TL.tl_append, t_turned, t_blank, tl_blank, List.append_assoc]
  rfl
theorem text_three (w n m : Str) : ((w ++ (" " : Str)) ++ n) ++ (" " : Str) ++ m = Txt.join (Str.ofString " ") [w, n, m] := by
  rw [join_cons (by simp), join_cons (by simp), join_one]
  refine TL.ext_tl ?_
  simp only [TL.tl_append, t_blank, tl_blank, List.append_assoc]
theorem text_four (w n m : Str) (p : Nat) : (((w ++ (" " : Str)) ++ n) ++ (" " : Str) ++ m) ++ (" " : Str) ++ natS p = Txt.join (Str.ofString " ") [w, n, m, natS p] := by
  rw [join_cons (by simp), join_cons (by simp), join_cons (by simp), join_one]
  refine TL.ext_tl ?_
  simp only [TL.tl_append, t_blank, tl_blank, List.append_assoc]
theorem text_tell (n : Str) : ("show " : Str) ++ n = (Row.tell n).text := by
  show _ = Txt.join (Str.ofString " ") [("show" : Str), n]
  rw [join_cons (by simp), join_one]
  refine TL.ext_tl ?_
  simp only [TL.tl_append, t_show, tl_blank, List.append_assoc]
end EM
set_option Elab.async false
set_option linter.all false
set_option maxRecDepth 100000
set_option maxHeartbeats 2000000
namespace EM
open PySem PySem.Spec PyProof.Rows L2 Evl
section
variable {P : Program} {w : World} {K : PySem.W.Frag} {mg : Str → Option Value} {base : Heap}
/-- the module's table of rows -/
structure Tf (K : PySem.W.Frag) (w : World) (mg : Str → Option Value) : Prop where
  forms : ∃ a es n, mg "FORMS" = some (.ref a) ∧ KDict K w a es n ∧ ∀ r : Row, ∃ u, PySem.W.nsIn K a r.word = some (some u) ∧ RelV (.str r.kinds) u
/-! ### is_name(word) -/
def sp_is_name (K : PySem.W.Frag) : Sp := fun vs H Q _ => ∃ z : Str, vs = [.str z] ∧ Nm z ∧ ∀ H', Ex H H' → Q (.bl true) H'
theorem letters : (Str.ofString "abcdefghijklmnopqrstuvwxyz").cps.toList = [97, 98, 99, 100, 101, 102, 103, 104, 105, 106, 107, 108, 109, 110, 111, 112, 113, 114, 115, 116, 117, 118, 119, 120, 121, 122] := by decide +kernel
theorem let_mem {c : Nat} (h : 97 ≤ c ∧ c ≤ 122) : c ∈ (Str.ofString "abcdefghijklmnopqrstuvwxyz").cps.toList := by
  rw [letters]
  have e : c ∈ List.range' 97 26 := List.mem_range'_1.mpr (by omega)
  exact e
theorem sc_is_name : FnScope ["word", "sign"] ["word"] (defScope sIsName) := ⟨rfl, rfl, rfl, by decide +kernel, rfl, by decide +kernel, by decide +kernel⟩
theorem ok_is_name (F : At K mg "is_name" "is_name" sIsName) (T : Tx K w mg) : Cal P w K mg base CX0 1 "is_name" ["word"] (sp_is_name K) := by
  have S := sc_is_name
  refine F.cal S (fun _ _ _ _ _ _ us hl => match us, hl with | [_], _ => rfl) (fun vs H Q E h => ?_) (fun cdv f A outer s H vs Q E hr h => ?_)
  · obtain ⟨z, rfl, _⟩ := h
    rfl
  · obtain ⟨z, rfl, hz, q⟩ := h
    have h1 := hz.pos
    have h2 := hz.most
    have hs : z.length ≤ sizeLine := len_nat (by omega)
    have hsz : z.cps.size = z.length := rfl
    refine ⟨_, (pss_one (ps_ret (pe_and (pe_chain op_le op_le pe_int (pe_callB call_len_str rfl T.len bt_len (pa_cons (pv 0) pa_nil)) pe_int) (pe_one (pe_callB (xall K rfl) rfl T.all bt_all (pa_cons (pe_lc (own := [("sign", 1)]) (g := gName 1) rfl S.nd (pi_str (pv 0)) (blkOk_by (by kernel_rfl)) (fun _ _ _ _ _ => (pg_name (i := 1) S.nd rfl (by first | exact Or.inl rfl | exact Or.inr rfl))) (fun _ _ _ _ _ => pts_nil) (fun _ _ _ _ _ => (pe_cmpR (op_in_sign) (pv 1) (pe_gstr T.LETTERS) rfl))) pa_nil)))))), ?_⟩
    refine ⟨_, rfl, _, rfl, hs, _, _, rfl, rfl, _, rfl, ifT (decide_eq_true (by omega)) ⟨_, _, rfl, rfl, _, rfl, ifT (decide_eq_true (by omega)) ?_⟩⟩
    refine ⟨_, rfl, z, rfl, fun D hD => cl_str (z := z) (fun _ => true) (fun _ v _ => v = .bl true) hD (by omega) (fun _ => rfl) (fun _ _ _ _ h _ => h) (fun i H2 _ _ Q q => q H2 (Ex.refl H2)) (fun i H2 acc hi _ e2 _ Q q => ?_) (fun H' out e1 hD' hp => ?_)⟩
    · refine ⟨_, rfl, _, _, rfl, rfl, q _ H2 (Ex.refl H2) ?_⟩
      have hc : z.cps.getD i 0 ∈ TL.tl z := by
        have e : z.cps.getD i 0 = z.cps[i] := by simp [Array.getD_eq_getD_getElem?, hi]
        rw [e]
        simp
      exact congrArg V.bl (decide_eq_true (let_mem (hz.let_ _ hc)))
    · obtain ⟨bs, rfl, ha⟩ := all_true out (paired_all hp fun _ _ h => h)
      refine ⟨D, bs, rfl, .inl (.inl hD'), ?_⟩
      rw [ha]
      exact q H' e1
/-! ### thing_in(word, kind) -/
def sp_thing_in (K : PySem.W.Frag) : Sp := fun vs H Q _ => ∃ (z : Str) (c : Nat) (v : V), vs = [.str z, .str ⟨#[c]⟩] ∧ Thing z c v ∧ ∀ H', Ex H H' → Q v H'
theorem one_t : (⟨#[116]⟩ : Str) = "t" := by decide +kernel
theorem one_n : (⟨#[110]⟩ : Str) = "n" := by decide +kernel
theorem one_w : (⟨#[119]⟩ : Str) = "w" := by decide +kernel
theorem sc_thing_in : FnScope ["word", "kind", "thing"] ["word", "kind"] (defScope sThingIn) := ⟨rfl, rfl, rfl, by decide +kernel, rfl, by decide +kernel, by decide +kernel⟩
theorem ok_thing_in (F : At K mg "thing_in" "thing_in" sThingIn) (T : Tx K w mg) (G_number_in : Cal P w K mg base CX0 1 "number_in" ["word", "most"] (sp_number_in K)) (G_is_name : Cal P w K mg base CX0 1 "is_name" ["word"] (sp_is_name K)) : Cal P w K mg base CX0 2 "thing_in" ["word", "kind"] (sp_thing_in K) := by
  have S := sc_thing_in
  refine F.cal S (fun _ _ _ _ _ _ us hl => match us, hl with | [_, _], _ => rfl) (fun vs H Q E h => ?_) (fun cdv f A outer s H vs Q E hr h => ?_)
  · obtain ⟨z, c, v, rfl, _⟩ := h
    rfl
  · obtain ⟨z, c, v, rfl, ht, q⟩ := h
    obtain ⟨tm, hmg⟩ := T.MOST_FIGURES_deskwords
    refine ⟨_, (pss_cons (ps_if (pt_cmpR (op_eq) (pv 1) pe_str (nomark _))
      (pss_one (ps_ret (pv 0)))
      pss_nil)
      (pss_cons (ps_set (i := 2) S.nd rfl (by first | exact Or.inl rfl | exact Or.inr rfl) (pv 0))
      (pss_cons (ps_if (pt_cmpR (op_eq) (pv 1) pe_str (nomark _))
      (pss_one (ps_set (i := 2) S.nd rfl (by first | exact Or.inl rfl | exact Or.inr rfl) (pe_cc G_number_in (hr.mono (by decide)) (pa_cons (pv 0) (pa_cons (pe_gint T.MOST_FIGURES_deskwords) pa_nil)))))
      pss_nil)
      (pss_cons (ps_if (PW.pt (pw_or (pt_cmpR (op_isN) (pv 2) pe_non (nomark _)) (pw_or1 (PW.pt (pw_and (pt_cmpR (op_eq) (pv 1) pe_str (nomark _)) (pw_and1 (pt_not (pt_val (pe_cc G_is_name (hr.mono (by decide)) (pa_cons (pv 0) pa_nil))))))))))
      (pss_one ps_never)
      pss_nil)
      (pss_one (ps_ret (pv 2))))))), ?_⟩
    cases ht with
    | text =>
      refine ⟨_, rfl, rfl, _, rfl, ifT (decide_eq_true (congrArg V.str one_t)) ⟨_, rfl, q H (Ex.refl H)⟩⟩
    | name hz =>
      refine ⟨_, rfl, rfl, _, rfl, ifF (decide_eq_false fun z => ?_) ⟨_, rfl, _, rfl, rfl, _, rfl, ifF (decide_eq_false fun z => ?_) ?_⟩⟩
      · exact absurd (congrArg (fun v => match v with | V.str y => y.cps | _ => #[]) z) (by decide +kernel)
      · exact absurd (congrArg (fun v => match v with | V.str y => y.cps | _ => #[]) z) (by decide +kernel)
      · refine ⟨_, rfl, rfl, _, rfl, ifF (decide_eq_false fun z => by cases z) ⟨_, rfl, rfl, _, rfl, ifT (decide_eq_true (congrArg V.str one_w)) ⟨_, rfl, z, rfl, hz, fun H1 e1 => ⟨true, rfl, ifF (by decide) ⟨_, rfl, q H1 e1⟩⟩⟩⟩⟩
    | num h =>
      rename_i p
      refine ⟨_, rfl, rfl, _, rfl, ifF (decide_eq_false fun z => ?_) ⟨_, rfl, _, rfl, rfl, _, rfl, ifT (decide_eq_true (congrArg V.str one_n)) ?_⟩⟩
      · exact absurd (congrArg (fun v => match v with | V.str y => y.cps | _ => #[]) z) (by decide +kernel)
      · have hl := nat_len (n := p) (k := 2) (by omega) (by omega)
        refine ⟨_, rfl, p, 6, rfl, by omega, by decide, fun H1 e1 => ⟨_, rfl, rfl, _, rfl, ifF (decide_eq_false fun z => by cases z) ⟨_, rfl, rfl, _, rfl, ifF (decide_eq_false fun z => ?_) ⟨_, rfl, q H1 e1⟩⟩⟩⟩
        exact absurd (congrArg (fun v => match v with | V.str y => y.cps | _ => #[]) z) (by decide +kernel)
/-! ### kinds_of(words) -/
def sp_kinds_of (K : PySem.W.Frag) : Sp := fun vs H Q _ => ∃ (a : Addr) (r : Row), vs = [.ref a] ∧ SqL K H a (r.words.map V.str) ∧ ∀ H', Ex H H' → Q (.str r.kinds) H'
theorem word_wish (r : Row) : ¬ r.word = "wish" := by
  cases r with
  | one du n m => cases du <;> (show ¬ _ = _) <;> (simp only [Row.word]; decide +kernel)
  | pt off n m p => cases off <;> (simp only [Row.word]; decide +kernel)
  | put n l => simp only [Row.word]; decide +kernel
  | turn n k bs => simp only [Row.word]; decide +kernel
  | tell n => simp only [Row.word]; decide +kernel
theorem sc_kinds_of : FnScope ["words"] ["words"] (defScope sKindsOf) := ⟨rfl, rfl, rfl, by decide +kernel, rfl, by decide +kernel, by decide +kernel⟩
theorem ok_kinds_of (F : At K mg "kinds_of" "kinds_of" sKindsOf) (T : Tx K w mg) (TF : Tf K w mg) : Cal P w K mg base CX0 1 "kinds_of" ["words"] (sp_kinds_of K) := by
  have S := sc_kinds_of
  refine F.cal S (fun _ _ _ _ _ _ us hl => match us, hl with | [_], _ => rfl) (fun vs H Q E h => ?_) (fun cdv f A outer s H vs Q E hr h => ?_)
  · obtain ⟨a, r, rfl, _⟩ := h
    rfl
  · obtain ⟨a, r, rfl, hS, q⟩ := h
    obtain ⟨af, esf, nf, hmFORMS, DF, hF⟩ := TF.forms
    obtain ⟨u, hu1, hu2⟩ := hF r
    refine ⟨_, (pss_cons (ps_if (pt_cmpR (op_eq) (pe_ix (xix_list K) (pv 0) pe_int (fun _ _ => rfl)) pe_str (nomark _))
      (pss_one (ps_ret (pe_ix (xix_list K) (pe_lst (pa_cons pe_str (pa_cons pe_str pa_nil))) (pe_callTy call_int1 rfl T.int bt_int (pa_cons (pe_cmpR (op_eq) (pe_callB (xlen_seq K) rfl T.len bt_len (pa_cons (pv 0) pa_nil)) pe_int (nomark _)) pa_nil)) (fun _ _ => rfl))))
      pss_nil)
      (pss_cons (ps_if (pt_cmpR (op_notIn_kd DF) (pe_ix (xix_list K) (pv 0) pe_int (fun _ _ => rfl)) (pe_gref hmFORMS) rfl)
      (pss_one ps_never)
      pss_nil)
      (pss_one (ps_ret (pe_ix ix_kdict (pe_gref hmFORMS) (pe_ix (xix_list K) (pv 0) pe_int (fun _ _ => rfl)) (fun _ _ => rfl)))))), ?_⟩
    have h0 : atI (r.words.map V.str) 0 = some (.str r.word) := atI_nat (j := 0) rfl
    refine ⟨_, rfl, a, _, 0, _, rfl, rfl, hS, h0, rfl, _, rfl, ifF (decide_eq_false fun z => word_wish r (V.str.inj z)) ?_⟩
    refine ⟨_, rfl, a, _, 0, _, rfl, rfl, hS, h0, _, _, rfl, rfl, hu1, _, rfl, ifF rfl ?_⟩
    refine ⟨_, rfl, a, _, 0, _, rfl, rfl, hS, h0, af, _, _, rfl, rfl, ⟨esf, nf, u, DF.at_, DF.lit, hu1, hu2⟩, q H (Ex.refl H)⟩
/-! ### told_in(row) -/
def sp_told_in (K : PySem.W.Frag) : Sp := fun vs H Q _ => ∃ r : Row, vs = [.str r.text] ∧ r.ok ∧ ∀ v H', Ex H H' → (∃ a l, v = .ref a ∧ SqT K H' a [.str r.word, .ref l] ∧ SqL K H' l r.things) → Q v H'
theorem sc_told_in : FnScope ["row", "words", "kinds", "many", "word", "kind"] ["row"] (defScope sToldIn) := ⟨rfl, rfl, rfl, by decide +kernel, rfl, by decide +kernel, by decide +kernel⟩
theorem ok_told_in (F : At K mg "told_in" "told_in" sToldIn) (T : Tx K w mg) (G_kinds_of : Cal P w K mg base CX0 1 "kinds_of" ["words"] (sp_kinds_of K)) (G_thing_in : Cal P w K mg base CX0 2 "thing_in" ["word", "kind"] (sp_thing_in K)) : Cal P w K mg base CX0 3 "told_in" ["row"] (sp_told_in K) := by
  have S := sc_told_in
  refine F.cal S (fun _ _ _ _ _ _ us hl => match us, hl with | [_], _ => rfl) (fun vs H Q E h => ?_) (fun cdv f A outer s H vs Q E hr h => ?_)
  · obtain ⟨r, rfl, _⟩ := h
    rfl
  · obtain ⟨r, rfl, hO, q⟩ := h
    have hlen := row_len hO
    refine ⟨_, (pss_cons (ps_if (pt_not (pt_val (pe_callB (xisi K) rfl T.isinstance bt_isinstance (pa_cons (pv 0) (pa_cons (pe_bltn (v := .ty "str") rfl T.str bt_str rfl) pa_nil)))))
      (pss_one ps_never)
      pss_nil)
      (pss_cons (ps_set (i := 1) S.nd rfl (by first | exact Or.inl rfl | exact Or.inr rfl) (pe_split (pv 0) pe_str))
      (pss_cons (ps_set (i := 2) S.nd rfl (by first | exact Or.inl rfl | exact Or.inr rfl) (pe_cc G_kinds_of (hr.mono (by decide)) (pa_cons (pv 1) pa_nil)))
      (pss_cons (ps_set (i := 3) S.nd rfl (by first | exact Or.inl rfl | exact Or.inr rfl) (pe_callB call_len_str rfl T.len bt_len (pa_cons (pv 2) pa_nil)))
      (pss_cons (ps_if (PW.pt (pw_and (pt_cmpR (op_eq) (pe_ix ix_str (pv 2) (pe_un un_neg pe_int) (fun _ _ => rfl)) pe_str (nomark _)) (pw_and1 (pt_cmpR (op_gt) (pe_callB (xlen_seq K) rfl T.len bt_len (pa_cons (pv 1) pa_nil)) (pv 3) (nomark _)))))
      (pss_one (ps_set (i := 1) S.nd rfl (by first | exact Or.inl rfl | exact Or.inr rfl) (pe_op (op_cat) (pe_slice (xsl_list K) (pv 1) po_none (po_some (pv 3))) (pe_lst (pa_cons (xpe_join K pe_str (pe_slice (xsl_list K) (pv 1) (po_some (pv 3)) po_none)) pa_nil)))))
      pss_nil)
      (pss_cons (ps_if (pt_cmpR (op_ne) (pe_callB (xlen_seq K) rfl T.len bt_len (pa_cons (pv 1) pa_nil)) (pe_op (op_add) (pv 3) pe_int) (nomark _))
      (pss_one ps_never)
      pss_nil)
      (pss_one (ps_ret (pe_tup (pa_cons (pe_ix (xix_list K) (pv 1) pe_int (fun _ _ => rfl)) (pa_cons (pe_lc (own := [("word", 4), ("kind", 5)]) rfl S.nd (xpi_zipLS K rfl T.zip (pa_cons (pe_slice (xsl_list K) (pv 1) (po_some pe_int) po_none) (pa_cons (pv 2) pa_nil))) (blkOk_by (by kernel_rfl)) (fun _ _ _ _ _ => (xpg_tup K (n := 2) rfl (pgs_cons (pg_name (i := 4) S.nd rfl (by first | exact Or.inl rfl | exact Or.inr rfl)) (pgs_cons (pg_name (i := 5) S.nd rfl (by first | exact Or.inl rfl | exact Or.inr rfl)) pgs_nil)))) (fun _ _ _ _ _ => pts_nil) (fun _ _ _ _ _ => (pe_cc G_thing_in (hr.mono (by decide)) (pa_cons (pv 4) (pa_cons (pv 5) pa_nil))))) pa_nil))))))))))), ?_⟩
    refine ⟨_, rfl, .str _, .ty "str", _, _, _, rfl, .ty _, .base (.str _), kit_ss, _, rfl, iteF ⟨_, rfl, ⟨_, rfl⟩, _, _, rfl, rfl, by decide, ?_, fun o no => ?_⟩⟩
    · have : sizeLine = 16777216 := sizeLine_eq
      omega
    rw [split_row hO]
    have eo : Ex H (upd H o (.lst (r.words.map V.str))) := Ex.new no
    have hW : SqL K (upd H o (.lst (r.words.map V.str))) o (r.words.map V.str) := .inl (.inl upd_same)
    refine ⟨_, rfl, o, r, rfl, hW, fun H1 e1 => ?_⟩
    have hW1 := ex_l e1 hW
    have hkn := kinds_len r
    have hcs := cut_small r
    have hkl : r.kinds.length ≤ sizeLine := len_nat (by omega)
    obtain ⟨c, hc1, hc2⟩ := row_last r
    have e01 : Ex H H1 := eo.trans e1
    have fin : ∀ (o2 : Addr) (H2 : Hp), Ex H H2 → SqL K H2 o2 ((r.word :: r.cut).map V.str) → tSeq (tIfS (tTest (tOp rNe (tCB (rLenS K) (tCons (tVar 1) tNil)) (tOp (rI0 fun i j => V.int (i + j)) (tVar 3) (tC (V.int 1))))) tNever tNext) (tRet (tTup (tCons (tOp (rIxL K) (tVar 1) (tC (V.int 0))) (tCons (tLc (iZipq K (tCons (tSl (rSlL K) (tVar 1) (tPart (tC (V.int 1))) tNoPart) (tCons (tVar 2) tNil))) (gTup K 2 (gCons (gName 4) (gCons (gName 5) gNil))) tYes (tCall (sp_thing_in K) [] E0 (tCons (tVar 4) (tCons (tVar 5) tNil))) [4, 5]) tNil)))) { nx := fun x H' => Q V.non H', rt := Q } [some (.str r.text), some (.ref o2), some (.str r.kinds), some (.int (r.kinds.length : Nat)), none, none] H2 := by
      intro o2 H2 e2 hS2
      refine ⟨_, rfl, o2, _, rfl, .inl hS2, _, rfl, _, _, rfl, rfl, rfl, _, rfl, ifF (by rw [decide_eq_true]; rfl; rw [List.length_map, List.length_cons, hkn]; rfl) ?_⟩
      refine ⟨_, rfl, o2, _, 0, _, rfl, rfl, hS2, atI_nat (j := 0) rfl, _, rfl, 1, rfl, o2, _, rfl, hS2, fun t nt => ?_⟩
      have ec : cutV ((r.word :: r.cut).map V.str) (some 1) none = r.cut.map V.str := cutV_drop (k := 1) (by simp)
      rw [ec]
      have et := Ex.new nt (o := .lst (r.cut.map V.str))
      have htl := things_len r
      have hcl : (r.cut.map V.str).length = r.things.length := by rw [List.length_map, htl]
      refine ⟨_, rfl, t, r.kinds, _, rfl, .inl (.inl upd_same), fun D hD => cl_zip (j1 := 4) (j2 := 5) (.inl (.inl upd_same)) (by rw [List.length_map]; exact hkn.symm) (fun T x y σ H k hT hk => ⟨T, [x, y], rfl, .inl (.inl hT), rfl, _, _, rfl, _, _, rfl, rfl, hk⟩)
        (fun i v _ => v = r.things.getD i .non) hD (by rw [hcl, htl]; omega) (fun _ _ => rfl) (fun _ _ _ _ h _ => h) (fun i H3 acc hi e3 _ Q q => ?_) (fun H3 out e3 hD3 hp => ?_)⟩
      · rw [List.length_map] at hi
        have ex1 : (r.cut.map V.str).getD i .non = .str (r.cut.getD i Str.empty) := by simp [List.getD_eq_getElem?_getD, hi]
        have ex2 : r.kinds.cps.getD i 0 = (TL.tl r.kinds).getD i 0 := by simp [Array.getD_eq_getD_getElem?, List.getD_eq_getElem?_getD, TL.tl]
        refine ⟨_, rfl, _, rfl, r.cut.getD i Str.empty, r.kinds.cps.getD i 0, _, by rw [ex1]; rfl, ?_, fun H4 e4 => q _ H4 e4 rfl⟩
        rw [ex2]
        exact row_thing hO hi
      · have eo2 : out = r.things := by
          rw [hcl] at hp
          have z := paired_eq (g := fun x => x) (paired_range (F := fun (x v : V) => v = x) hp)
          rw [z]
          exact List.map_id _
        subst eo2
        refine ⟨by show 2 ≤ sizeLine; decide, fun p np => q _ _ ((e2.trans et).trans (e3.trans (Ex.new np))) ⟨p, D, rfl, .inl (.inl upd_same), ?_⟩⟩
        exact ex_l (Ex.new np) (.inl (.inl hD3))
    refine ⟨_, rfl, r.kinds, rfl, hkl, ?_⟩
    refine ⟨_, rfl, 1, rfl, _, -1, _, rfl, rfl, hkl, hc1, rfl, _, rfl, ?_⟩
    cases hT : r.isT with
    | false =>
      refine ifF (decide_eq_false fun z => ?_) (fin o H1 e01 (by rw [← cut_args hT]; exact hW1))
      have z2 := congrArg TL.tl (V.str.inj z)
      rw [show TL.tl ("t" : Str) = [116] by decide +kernel] at z2
      have z3 := hc2.mp (List.cons.inj z2).1
      rw [hT] at z3
      cases z3
    | true =>
      have hc := hc2.mpr hT
      subst hc
      have hm := cut_more hT hO
      have hml : r.words.length ≤ 10920 := by have := row_sum hO; omega
      have hk1 : r.kinds.length ≤ (r.words.map V.str).length := by rw [List.length_map]; omega
      refine ifT (decide_eq_true (congrArg V.str one_t)) ⟨_, rfl, o, _, rfl, .inl hW1, _, rfl, _, _, rfl, rfl, _, rfl, ifT (decide_eq_true (by rw [List.length_map]; omega)) ?_⟩
      refine ⟨_, rfl, _, rfl, _, rfl, o, _, rfl, hW1, fun t nt => ?_⟩
      rw [cutV_take hk1]
      have et := Ex.new nt (o := .lst ((r.words.map V.str).take r.kinds.length))
      refine ⟨⟨_, rfl⟩, _, rfl, _, rfl, _, rfl, o, _, rfl, ex_l et hW1, fun t2 nt2 => ?_⟩
      rw [cutV_drop hk1]
      have et2 := Ex.new nt2 (o := .lst ((r.words.map V.str).drop r.kinds.length))
      refine ⟨_, t2, r.words.drop r.cut.length, rfl, rfl, .inl (.inl (.inl ?_)), ?_, by show 1 ≤ sizeLine; decide, fun o3 no3 => ?_⟩
      · rw [List.map_drop, ← hkn]
        exact upd_same
      · have z1 := drop_sum r.words r.cut.length
        have z2 := row_sum hO
        have e : (Str.ofString " ").length = 1 := by decide
        rw [e]
        omega
      have e3 := Ex.new no3 (o := .lst [.str (Txt.join (Str.ofString " ") (r.words.drop r.cut.length))])
      refine ⟨t, o3, _, _, rfl, rfl, e3 _ _ (et2 _ _ upd_same), upd_same, ?_, fun o2 no2 => ?_⟩
      · rw [List.length_take, List.length_map]
        exact len_nat (by show _ + 1 ≤ _; omega)
      · refine fin o2 _ ((((e01.trans et).trans et2).trans e3).trans (Ex.new no2)) ?_
        have z := cut_eq hT
        rw [← z, List.map_append, hkn, List.map_take]
        exact .inl (.inl upd_same)
end
end EM
set_option Elab.async false
set_option linter.all false
set_option maxRecDepth 100000
set_option maxHeartbeats 2000000
namespace EM
open PySem PySem.Spec PyProof.Rows L2 Evl
section
variable {P : Program} {w : World} {K : PySem.W.Frag} {mg : Str → Option Value} {base : Heap}
/-! ### the class Desk -/
def madeW : List V := [.str "put", .str "complement", .str "dual", .str "at", .str "off", .str "turned"]
structure Td (K : PySem.W.Frag) (mg : Str → Option Value) : Prop where
  desk : mg "Desk" = some (.ref (He.ga K "Desk"))
  cls : Cls K (He.ga K "Desk")
  noat : NoAttr K (He.ga K "Desk") "kept"
  noname : mg "NoName" = some (.ref (He.ga K "NoName"))
  exc : PySem.W.excIn K (He.ga K "NoName") He.veBase "ValueError.__new__" = true ∧ PySem.W.keepIn K (.ref (He.ga K "NoName")) = true ∧ PySem.W.subIn K (.ref (He.ga K "NoName")) (.type "BaseException") = some true ∧ PySem.W.typeIn K (.ref (He.ga K "NoName")) = some (.type "type")
  exm : PySem.W.exmOne K (.ref (He.ga K "NoName")) (.ref (He.ga K "NoName")) = some true
  mkr : Mk K (He.ga K "Desk") (He.ma K (He.ga K "Desk") "__init__")
  made : ∃ a, mg "MADE" = some (.ref a) ∧ ∀ H, SqT K H a madeW
/-- a method's statement -/
structure MAt (K : PySem.W.Frag) (C : Addr) (m qual : Str) (st : Stmt) : Prop where
  ex : ∃ f fd, FunD K m qual (defArgs st) (defBody st) (defScope st) [] [] f fd ∧ Meth K C m f
structure MCal (P : Program) (w : World) (K : PySem.W.Frag) (mg : Str → Option Value) (base : Heap) (CX : CXT) (k : Nat) (C : Addr) (m : Str) (ps : List Str) (sp : Sp) : Prop where
  ex : ∃ f fd, FnOk P w K mg base CX k f fd ps sp ∧ Meth K C m f ∧ Binds K fd ps []
theorem MAt.cal {C : Addr} {m qual : Str} {st : Stmt} {N ps : List Str} {k : Nat} {sp : Sp} (F : MAt K C m qual st) (S : FnScope N ps (defScope st))
    (hb : ∀ (kV doc pm : Value) (an : Option Addr) (cdv ct : Value) (us : List Value), us.length = ps.length → bindArgs (PySem.W.fnOf m qual (defArgs st) (defBody st) (defScope st) .none kV doc pm an cdv ct) ⟨us, []⟩ = pure (ps.zip us))
    (len : ∀ vs H Q E, sp vs H Q E → vs.length = ps.length)
    (hbody : ∀ (cdv : Value) (f : Addr) (A : Around) (outer : List Env) (s : Shared) (H : Hp) (vs : List V) (Q : VK) (E : XK), Room k (A.deeper (envOfC qual (defScope st) s.heap.objs.size f cdv)) → sp vs H Q E →
      ∃ t, PSs (cxOf (L2.CX P w) P w K mg base N qual (defScope st) f cdv A outer s H E) (defBody st) t ∧ t { nx := fun _ H' => Q .non H', rt := Q } (start N vs) H) : MCal P w K mg base (L2.CX P w) (k + 1) C m ps sp := by
  obtain ⟨f, fd, F, hm⟩ := F.ex
  exact ⟨f, fd, F.ok S len fun cdv A outer s H vs Q E hr h => hbody cdv f A outer s H vs Q E hr h, hm, F.bindsN hb⟩
/-- a desk stands at a, its dict at d -/
structure Dk (K : PySem.W.Frag) (H : Hp) (a d : Addr) (f : Ks) (ns : List Str) : Prop where
  ins : ∃ dx, H a = some (.ins (He.ga K "Desk") dx [("kept", .ref d)])
  dic : ∃ kvs, H d = some (.dK kvs) ∧ Kr K H kvs f ns
theorem Dk.ne {H : Hp} {a d : Addr} {f : Ks} {ns : List Str} (h : Dk K H a d f ns) : a ≠ d := fun z => by
  obtain ⟨dx, h1⟩ := h.ins
  obtain ⟨kvs, h2, _⟩ := h.dic
  rw [z, h2] at h1
  cases h1
theorem Dk.ex {H H' : Hp} {a d : Addr} {f : Ks} {ns : List Str} (h : Dk K H a d f ns) (e : Ex H H') : Dk K H' a d f ns := by
  obtain ⟨dx, h1⟩ := h.ins
  obtain ⟨kvs, h2, h3⟩ := h.dic
  exact ⟨⟨dx, e _ _ h1⟩, kvs, e _ _ h2, h3.tk (tk_of e)⟩
theorem Dk.kd {H H' : Hp} {a d D : Addr} {f : Ks} {ns : List Str} (h : Dk K H a d f ns) (e : KD D H H') (h1 : a ≠ D) (h2 : d ≠ D) : Dk K H' a d f ns := by
  obtain ⟨dx, g1⟩ := h.ins
  obtain ⟨kvs, g2, g3⟩ := h.dic
  exact ⟨⟨dx, e.but _ _ h1 g1⟩, kvs, e.but _ _ h2 g2, g3.tk e.tk⟩
/-! ### Desk.__init__ -/
def sp_init (K : PySem.W.Frag) : Sp := fun vs H Q _ => ∃ (a : Addr) (dx : Addr), vs = [.ref a] ∧ H a = some (.ins (He.ga K "Desk") dx []) ∧ ∀ d, H d = none → Q .non (upd (upd H d (.dK [])) a (.ins (He.ga K "Desk") dx [("kept", .ref d)]))
theorem sc_init : FnScope ["self"] ["self"] (defScope sDInit) := ⟨rfl, rfl, rfl, by decide +kernel, rfl, by decide +kernel, by decide +kernel⟩
theorem ok_init (F : MAt K (He.ga K "Desk") "__init__" "Desk.__init__" sDInit) (TD : Td K mg) : MCal P w K mg base (L2.CX P w) 1 (He.ga K "Desk") "__init__" ["self"] (sp_init K) := by
  have S := sc_init
  refine F.cal S (fun _ _ _ _ _ _ us hl => match us, hl with | [_], _ => rfl) (fun vs H Q E h => ?_) (fun cdv f A outer s H vs Q E hr h => ?_)
  · obtain ⟨a, dx, rfl, _⟩ := h
    rfl
  · obtain ⟨a, dx, rfl, ha, q⟩ := h
    refine ⟨_, (pss_one (ps_fld (pv 0) pe_dnewK rfl)), ?_⟩
    refine fun d hd => ⟨_, rfl, a, _, dx, [], rfl, ?_, TD.cls, TD.noat, by decide, ?_⟩
    · rw [upd_ne (fun z => by rw [z, hd] at ha; cases ha)]
      exact ha
    · exact q d hd
/-! ### Desk.named(name) -/
def sp_named (K : PySem.W.Frag) : Sp := fun vs H Q E => ∃ (a d : Addr) (f : Ks) (ns : List Str) (n : Str), vs = [.ref a, .str n] ∧ Dk K H a d f ns ∧ (∀ l v, f n = some l → LY K H l v → Q v H) ∧ (f n = none → ∀ dd, E (.ref (He.ga K "NoName")) dd H)
theorem sc_named : FnScope ["self", "name"] ["self", "name"] (defScope sDNamed) := ⟨rfl, rfl, rfl, by decide +kernel, rfl, by decide +kernel, by decide +kernel⟩
theorem ok_named (F : MAt K (He.ga K "Desk") "named" "Desk.named" sDNamed) (TD : Td K mg) : MCal P w K mg base (L2.CX P w) 1 (He.ga K "Desk") "named" ["self", "name"] (sp_named K) := by
  have S := sc_named
  refine F.cal S (fun _ _ _ _ _ _ us hl => match us, hl with | [_, _], _ => rfl) (fun vs H Q E h => ?_) (fun cdv f A outer s H vs Q E hr h => ?_)
  · obtain ⟨a, d, f, ns, n, rfl, _⟩ := h
    rfl
  · obtain ⟨a, d, g, ns, n, rfl, hD, q, qE⟩ := h
    have hu := hu_of hr
    obtain ⟨dx, hins⟩ := hD.ins
    obtain ⟨kvs, hdic, hkr⟩ := hD.dic
    refine ⟨_, (pss_cons (ps_if (pt_cmp (pc_dnotin hu (pv 1) (xpe_fld K (pv 0) rfl)))
      (pss_one (ps_raise rfl (takes_of rfl rfl rfl rfl) (pmk_own PySem.F.excBase_ValueError TD.exc.1 TD.noname TD.exc.2.1 (raises_own TD.exc.2.2.1 TD.exc.2.2.2) rfl)))
      pss_nil)
      (pss_one (ps_ret (pe_dget hu (xpe_fld K (pv 0) rfl) (pv 1) (fun _ _ => rfl))))), ?_⟩
    refine ⟨_, rfl, _, rfl, a, _, dx, _, _, rfl, hins, TD.cls, TD.noat, rfl, d, _, rfl, DGet.k (k := (Sum.inr n : Key)) hdic, _, rfl, ?_⟩
    cases hf : g n with
    | none =>
      rw [hkr.none hf]
      exact ifT rfl (qE hf _)
    | some l =>
      obtain ⟨v, hv, hl⟩ := hkr.some hf
      rw [hv]
      refine ifF rfl ⟨_, rfl, a, _, dx, _, _, rfl, hins, TD.cls, TD.noat, rfl, _, rfl, d, v, rfl, by rw [← hv]; exact DGet.k (k := (Sum.inr n : Key)) hdic, q l v hf hl⟩
/-! ### Desk.asked(word, layouts): show -/
def sp_asked (K : PySem.W.Frag) : Sp := fun vs H Q _ => ∃ (a t : Addr) (l : Lay) (x : V), vs = [.ref a, .str "show", .ref t] ∧ SqL K H t [x] ∧ LY K H l x ∧ LOk l ∧ ∀ H', Ex H H' → Q (.str (layT l)) H'
theorem sc_asked : FnScope ["self", "word", "layouts", "told"] ["self", "word", "layouts"] (defScope sDAsked) := ⟨rfl, rfl, rfl, by decide +kernel, rfl, by decide +kernel, by decide +kernel⟩
theorem ok_asked (F : MAt K (He.ga K "Desk") "asked" "Desk.asked" sDAsked) (G_show_layout : Cal P w K mg base CX0 2 "show_layout" ["layout"] (sp_show_layout K)) : MCal P w K mg base (L2.CX P w) 3 (He.ga K "Desk") "asked" ["self", "word", "layouts"] (sp_asked K) := by
  have S := sc_asked
  refine F.cal S (fun _ _ _ _ _ _ us hl => match us, hl with | [_, _, _], _ => rfl) (fun vs H Q E h => ?_) (fun cdv f A outer s H vs Q E hr h => ?_)
  · obtain ⟨a, t, l, x, rfl, _⟩ := h
    rfl
  · obtain ⟨a, t, l, x, rfl, hS, hL, hO, q⟩ := h
    refine ⟨_, (pss_cons (ps_if (pt_cmpR (op_eq) (pv 1) pe_str (nomark _))
      (pss_one (ps_ret (pe_cc G_show_layout (hr.mono (by decide)) (pa_cons (pe_ix (xix_list K) (pv 2) pe_int (fun _ _ => rfl)) pa_nil))))
      pss_nil)
      (pss_cons ps_never
      (pss_cons ps_never
      (pss_cons ps_never
      (pss_cons ps_never
      (pss_one ps_never)))))), ?_⟩
    exact ⟨_, rfl, rfl, _, rfl, ifT (decide_eq_true rfl) ⟨_, rfl, t, _, 0, x, rfl, rfl, hS, atI_nat (j := 0) rfl, l, x, rfl, hL, hO, q⟩⟩
/-! ### Desk.made(word, things) -/
def sp_made (K : PySem.W.Frag) : Sp := fun vs H Q _ => ∃ (a d t : Addr) (f : Ks) (ns : List Str) (r : Row) (l : Lay), vs = [.ref a, .str r.word, .ref t] ∧ r.ok ∧ Dk K H a d f ns ∧ SqL K H t r.things ∧ Does f r l ∧ ∀ v H', Ex H H' → LY K H' l v → Q v H'
theorem sc_made : FnScope ["self", "word", "things", "layout"] ["self", "word", "things"] (defScope sDMade) := ⟨rfl, rfl, rfl, by decide +kernel, rfl, by decide +kernel, by decide +kernel⟩
theorem tw_put : ¬ ("turned" : Str) = "put" := by decide +kernel
theorem cw_put : ¬ ("complement" : Str) = "put" := by decide +kernel
theorem cw_turned : ¬ ("complement" : Str) = "turned" := by decide +kernel
theorem dw_put : ¬ ("dual" : Str) = "put" := by decide +kernel
theorem dw_turned : ¬ ("dual" : Str) = "turned" := by decide +kernel
theorem dw_comp : ¬ ("dual" : Str) = "complement" := by decide +kernel
theorem aw_put : ¬ ("at" : Str) = "put" := by decide +kernel
theorem aw_turned : ¬ ("at" : Str) = "turned" := by decide +kernel
theorem aw_comp : ¬ ("at" : Str) = "complement" := by decide +kernel
theorem aw_dual : ¬ ("at" : Str) = "dual" := by decide +kernel
theorem ow_put : ¬ ("off" : Str) = "put" := by decide +kernel
theorem ow_turned : ¬ ("off" : Str) = "turned" := by decide +kernel
theorem ow_comp : ¬ ("off" : Str) = "complement" := by decide +kernel
theorem ow_dual : ¬ ("off" : Str) = "dual" := by decide +kernel
theorem ow_at : ¬ ("off" : Str) = "at" := by decide +kernel
theorem neS {a b : Str} (h : ¬ a = b) : decide (V.str a = V.str b) = false := decide_eq_false fun z => h (V.str.inj z)
theorem ok_made (F : MAt K (He.ga K "Desk") "made" "Desk.made" sDMade) (TD : Td K mg) (G_named : MCal P w K mg base (L2.CX P w) 1 (He.ga K "Desk") "named" ["self", "name"] (sp_named K)) (G_read_layout : Cal P w K mg base CX0 5 "read_layout" ["text"] (sp_read_layout K)) (G_developed : Cal P w K mg base CX0 5 "developed" ["n", "bases"] (sp_developed K)) (G_blocks_in : Cal P w K mg base CX0 3 "blocks_in" ["words"] (sp_blocks_in K)) (G_complement : Cal P w K mg base CX0 1 "complement" ["layout"] (sp_complement K)) (G_dual : Cal P w K mg base CX0 1 "dual" ["layout"] (sp_dual K)) (G_at_point : Cal P w K mg base CX0 3 "at_point" ["layout", "point"] (sp_at_point K)) (G_off_point : Cal P w K mg base CX0 3 "off_point" ["layout", "point"] (sp_off_point K)) :
    MCal P w K mg base (L2.CX P w) 6 (He.ga K "Desk") "made" ["self", "word", "things"] (sp_made K) := by
  have S := sc_made
  refine F.cal S (fun _ _ _ _ _ _ us hl => match us, hl with | [_, _, _], _ => rfl) (fun vs H Q E h => ?_) (fun cdv f A outer s H vs Q E hr h => ?_)
  · obtain ⟨a, d, t, f, ns, r, l, rfl, _⟩ := h
    rfl
  · obtain ⟨a, d, t, g, ns, r, l, rfl, hro, hD, hS, hdo, q⟩ := h
    obtain ⟨fN, fdN, F_named, m_named, b_named⟩ := G_named.ex
    have hD0 := hD
    obtain ⟨dx, hins⟩ := hD.ins
    refine ⟨_, (pss_cons (ps_if (pt_cmpR (op_eq) (pv 1) pe_str (nomark _))
      (pss_one (ps_ret (pe_cc G_read_layout (hr.mono (by decide)) (pa_cons (pe_ix (xix_list K) (pv 2) pe_int (fun _ _ => rfl)) pa_nil))))
      pss_nil)
      (pss_cons (ps_if (pt_cmpR (op_eq) (pv 1) pe_str (nomark _))
      (pss_one (ps_ret (pe_cc G_developed (hr.mono (by decide)) (pa_cons (pe_ix (xix_list K) (pv 2) pe_int (fun _ _ => rfl)) (pa_cons (pe_cc G_blocks_in (hr.mono (by decide)) (pa_cons (pe_split (pe_ix (xix_list K) (pv 2) pe_int (fun _ _ => rfl)) pe_str) pa_nil)) pa_nil)))))
      pss_nil)
      (pss_cons (ps_set (i := 3) S.nd rfl (by first | exact Or.inl rfl | exact Or.inr rfl) (pe_meth (pv 0) TD.cls m_named F_named (hr.mono (by decide)) b_named .nil passL (pa_cons (pe_ix (xix_list K) (pv 2) pe_int (fun _ _ => rfl)) pa_nil)))
      (pss_cons (ps_if (pt_cmpR (op_eq) (pv 1) pe_str (nomark _))
      (pss_one (ps_ret (pe_cc G_complement (hr.mono (by decide)) (pa_cons (pv 3) pa_nil))))
      pss_nil)
      (pss_cons (ps_if (pt_cmpR (op_eq) (pv 1) pe_str (nomark _))
      (pss_one (ps_ret (pe_cc G_dual (hr.mono (by decide)) (pa_cons (pv 3) pa_nil))))
      pss_nil)
      (pss_cons (ps_if (pt_cmpR (op_eq) (pv 1) pe_str (nomark _))
      (pss_one (ps_ret (pe_cc G_at_point (hr.mono (by decide)) (pa_cons (pv 3) (pa_cons (pe_ix (xix_list K) (pv 2) pe_int (fun _ _ => rfl)) pa_nil)))))
      pss_nil)
      (pss_one (ps_ret (pe_cc G_off_point (hr.mono (by decide)) (pa_cons (pv 3) (pa_cons (pe_ix (xix_list K) (pv 2) pe_int (fun _ _ => rfl)) pa_nil))))))))))), ?_⟩
    cases hdo with
    | put ok =>
      exact ⟨_, rfl, rfl, _, rfl, ifT (decide_eq_true rfl) ⟨_, rfl, t, _, 1, _, rfl, rfl, hS, atI_nat (j := 1) rfl, l, rfl, ok, q⟩⟩
    | turn h1 h2 h3 h0 hb =>
      rename_i n k bs
      refine ⟨_, rfl, rfl, _, rfl, ifF (neS tw_put) ⟨_, rfl, rfl, _, rfl, ifT (decide_eq_true rfl) ?_⟩⟩
      obtain ⟨_, hk, hbs0, hbl, hsm⟩ := hro
      have hlen := bas_len hbl hsm
      refine ⟨_, rfl, t, _, 1, _, rfl, rfl, hS, atI_nat (j := 1) rfl, _, rfl, t, _, 2, _, rfl, rfl, hS, atI_nat (j := 2) rfl, ⟨_, rfl⟩, _, _, rfl, rfl, by decide, ?_, fun o no => ?_⟩
      · have : sizeLine = 16777216 := sizeLine_eq
        omega
      rw [split_bas hbs0]
      have eo := Ex.new no (o := .lst ((bs.map blkW).map V.str))
      exact ⟨o, bs, rfl, .inl (.inl upd_same), hbl, hsm, fun v H2 e hv => ⟨k, bs, v, rfl, hv, h1, h2, h3, hb, fun v2 H3 e2 hv2 => q v2 H3 ((eo.trans e).trans e2) hv2⟩⟩
    | comp h ok =>
      rename_i n m l
      refine ⟨_, rfl, rfl, _, rfl, ifF (neS cw_put) ⟨_, rfl, rfl, _, rfl, ifF (neS cw_turned) ?_⟩⟩
      refine ⟨_, rfl, a, dx, _, rfl, hins, rfl, _, rfl, t, _, 1, _, rfl, rfl, hS, atI_nat (j := 1) rfl, a, d, g, ns, m, rfl, hD0, fun l' v e hv => ?_, fun e => by rw [h] at e; cases e⟩
      rw [h] at e
      cases e
      exact ⟨_, rfl, rfl, _, rfl, ifT (decide_eq_true rfl) ⟨_, rfl, l, v, rfl, hv, ok, q⟩⟩
    | dual h ok hp =>
      rename_i n m l
      refine ⟨_, rfl, rfl, _, rfl, ifF (neS dw_put) ⟨_, rfl, rfl, _, rfl, ifF (neS dw_turned) ?_⟩⟩
      refine ⟨_, rfl, a, dx, _, rfl, hins, rfl, _, rfl, t, _, 1, _, rfl, rfl, hS, atI_nat (j := 1) rfl, a, d, g, ns, m, rfl, hD0, fun l' v e hv => ?_, fun e => by rw [h] at e; cases e⟩
      rw [h] at e
      cases e
      refine ⟨_, rfl, rfl, _, rfl, ifF (neS dw_comp) ⟨_, rfl, rfl, _, rfl, ifT (decide_eq_true rfl) ⟨_, rfl, l, v, rfl, hv, ok, hp, q⟩⟩⟩
    | pat h ok hp h2 =>
      rename_i n m l p
      refine ⟨_, rfl, rfl, _, rfl, ifF (neS aw_put) ⟨_, rfl, rfl, _, rfl, ifF (neS aw_turned) ?_⟩⟩
      refine ⟨_, rfl, a, dx, _, rfl, hins, rfl, _, rfl, t, _, 1, _, rfl, rfl, hS, atI_nat (j := 1) rfl, a, d, g, ns, m, rfl, hD0, fun l' v e hv => ?_, fun e => by rw [h] at e; cases e⟩
      rw [h] at e
      cases e
      exact ⟨_, rfl, rfl, _, rfl, ifF (neS aw_comp) ⟨_, rfl, rfl, _, rfl, ifF (neS aw_dual) ⟨_, rfl, rfl, _, rfl, ifT (decide_eq_true rfl) ⟨_, rfl, _, rfl, t, _, 2, _, rfl, rfl, hS, atI_nat (j := 2) rfl, l, p, v, rfl, hv, ok, hp, h2, q⟩⟩⟩⟩
    | poff h ok hp h2 =>
      rename_i n m l p
      refine ⟨_, rfl, rfl, _, rfl, ifF (neS ow_put) ⟨_, rfl, rfl, _, rfl, ifF (neS ow_turned) ?_⟩⟩
      refine ⟨_, rfl, a, dx, _, rfl, hins, rfl, _, rfl, t, _, 1, _, rfl, rfl, hS, atI_nat (j := 1) rfl, a, d, g, ns, m, rfl, hD0, fun l' v e hv => ?_, fun e => by rw [h] at e; cases e⟩
      rw [h] at e
      cases e
      exact ⟨_, rfl, rfl, _, rfl, ifF (neS ow_comp) ⟨_, rfl, rfl, _, rfl, ifF (neS ow_dual) ⟨_, rfl, rfl, _, rfl, ifF (neS ow_at) ⟨_, rfl, _, rfl, t, _, 2, _, rfl, rfl, hS, atI_nat (j := 2) rfl, l, p, v, rfl, hv, ok, hp, h2, q⟩⟩⟩⟩
theorem sw_wish : ¬ ("show" : Str) = "wish" := by decide +kernel
theorem in_put : inV (.str "put") madeW = true := by decide +kernel
theorem in_comp : inV (.str "complement") madeW = true := by decide +kernel
theorem in_dual : inV (.str "dual") madeW = true := by decide +kernel
theorem in_at : inV (.str "at") madeW = true := by decide +kernel
theorem in_off : inV (.str "off") madeW = true := by decide +kernel
theorem in_turned : inV (.str "turned") madeW = true := by decide +kernel
theorem tell_in : inV (.str "show") madeW = false := by decide +kernel
theorem made_in {f : Ks} {r : Row} {l : Lay} (h : Does f r l) : inV (.str r.word) madeW = true := by
  cases h with
  | put ok => exact in_put
  | comp h ok => exact in_comp
  | dual h ok h1 => exact in_dual
  | pat h ok hp h2 => exact in_at
  | poff h ok hp h2 => exact in_off
  | turn h1 h2 h3 h0 hb => exact in_turned
theorem first_at (r : Row) : atI r.things 0 = some (.str r.first) := by cases r <;> rfl
/-! ### Desk.say(row) -/
def sp_say (K : PySem.W.Frag) : Sp := fun vs H Q E => ∃ (a d : Addr) (f : Ks) (ns : List Str) (r : Row), vs = [.ref a, .str r.text] ∧ r.ok ∧ Dk K H a d f ns ∧ ns.length ≤ 5 ∧
  ((∃ l, Does f r l ∧ r.first ∈ ns ∧ ∀ H', KD d H H' → Dk K H' a d (putS f r.first l) ns → Q (.str "ok") H') ∨
   (∃ n l, r = .tell n ∧ f n = some l ∧ LOk l ∧ ∀ H', Ex H H' → Q (.str (layT l)) H') ∨
   (∃ n, r = .tell n ∧ f n = none ∧ ∀ dd H', Ex H H' → E (.ref (He.ga K "NoName")) dd H'))
theorem sc_say : FnScope ["self", "row", "word", "things", "name"] ["self", "row"] (defScope sDSay) := ⟨rfl, rfl, rfl, by decide +kernel, rfl, by decide +kernel, by decide +kernel⟩
theorem ok_say (F : MAt K (He.ga K "Desk") "say" "Desk.say" sDSay) (T : Tx K w mg) (TD : Td K mg) (G_told_in : Cal P w K mg base CX0 3 "told_in" ["row"] (sp_told_in K)) (G_named : MCal P w K mg base (L2.CX P w) 1 (He.ga K "Desk") "named" ["self", "name"] (sp_named K)) (G_made : MCal P w K mg base (L2.CX P w) 6 (He.ga K "Desk") "made" ["self", "word", "things"] (sp_made K)) (G_asked : MCal P w K mg base (L2.CX P w) 3 (He.ga K "Desk") "asked" ["self", "word", "layouts"] (sp_asked K)) :
    MCal P w K mg base (L2.CX P w) 7 (He.ga K "Desk") "say" ["self", "row"] (sp_say K) := by
  have S := sc_say
  refine F.cal S (fun _ _ _ _ _ _ us hl => match us, hl with | [_, _], _ => rfl) (fun vs H Q E h => ?_) (fun cdv f A outer s H vs Q E hr h => ?_)
  · obtain ⟨a, d, f, ns, r, rfl, _⟩ := h
    rfl
  · obtain ⟨a, d, g, ns, r, rfl, hro, hD, hns, hcase⟩ := h
    have hu := hu_of hr
    obtain ⟨fN, fdN, F_named, m_named, b_named⟩ := G_named.ex
    obtain ⟨fM, fdM, F_made, m_made, b_made⟩ := G_made.ex
    obtain ⟨fA, fdA, F_asked, m_asked, b_asked⟩ := G_asked.ex
    obtain ⟨am, hmMADE, hM⟩ := TD.made
    refine ⟨_, (pss_cons (ps_asg (pe_cc G_told_in (hr.mono (by decide)) (pa_cons (pv 1) pa_nil)) (pg_tup rfl (pgs_cons (pg_name (i := 2) S.nd rfl (by first | exact Or.inl rfl | exact Or.inr rfl)) (pgs_cons (pg_name (i := 3) S.nd rfl (by first | exact Or.inl rfl | exact Or.inr rfl)) pgs_nil))))
      (pss_cons (ps_if (pt_cmpR (xop_in K) (pv 2) (pe_gref hmMADE) rfl)
      (pss_cons (ps_dput hu (xpe_fld K (pv 0) rfl) (pe_ix (xix_list K) (pv 3) pe_int (fun _ _ => rfl)) (pe_meth (pv 0) TD.cls m_made F_made (hr.mono (by decide)) b_made .nil passL (pa_cons (pv 2) (pa_cons (pv 3) pa_nil))) rfl)
      (pss_one (ps_ret pe_str)))
      pss_nil)
      (pss_cons (ps_if (pt_cmpR (op_eq) (pv 2) pe_str (nomark _))
      (pss_one ps_never)
      pss_nil)
      (pss_one (ps_ret (pe_meth (pv 0) TD.cls m_asked F_asked (hr.mono (by decide)) b_asked .nil passL (pa_cons (pv 2) (pa_cons (pe_lcX (own := [("name", 4)]) (g := gName 4) rfl rfl (takes_of rfl rfl rfl rfl) rfl S.nd (xpi_list K (pv 3)) (blkOk_by (by kernel_rfl)) (fun _ _ _ _ _ => (pg_name (i := 4) S.nd rfl (by first | exact Or.inl rfl | exact Or.inr rfl))) (fun _ _ _ _ _ => pts_nil) (fun _ _ _ _ _ _ hx => (pe_meth (pv 0) TD.cls m_named F_named (hr.mono (by decide)) b_named .nil hx (pa_cons (pv 4) pa_nil)))) pa_nil)))))))), ?_⟩
    refine ⟨_, rfl, r, rfl, hro, fun v H1 e1 hv => ?_⟩
    obtain ⟨p, t, rfl, hp, ht⟩ := hv
    refine ⟨p, _, rfl, hp, rfl, _, _, rfl, _, _, rfl, rfl, ?_⟩
    have hD1 := hD.ex e1
    obtain ⟨dx, hins⟩ := hD1.ins
    refine ⟨_, rfl, am, madeW, rfl, .inr (hM _), rfl, rfl, _, rfl, ?_⟩
    rw [if_neg Bool.false_ne_true]
    rcases hcase with ⟨l, hdo, hfi, q⟩ | ⟨n, l, rfl, hf, hO, q⟩ | ⟨n, rfl, hf, q⟩
    · refine ifT (made_in hdo) ?_
      refine ⟨_, rfl, a, dx, _, rfl, hins, rfl, _, rfl, _, rfl, a, d, t, g, ns, r, l, rfl, hro, hD1, ht, hdo, fun v H2 e2 hv => ?_⟩
      have hD2 := hD1.ex e2
      obtain ⟨dx2, hins2⟩ := hD2.ins
      obtain ⟨kvs, hdic, hkr⟩ := hD2.dic
      have hkl := hkr.len
      refine ⟨_, rfl, a, _, dx2, _, _, rfl, hins2, TD.cls, TD.noat, rfl, _, rfl, t, _, 0, _, rfl, rfl, ex_l e2 ht, first_at r, d, _, rfl, DPut.k (k := (Sum.inr r.first : Key)) hdic (Nat.lt_of_lt_of_le (show kvs.length < 100 by omega) (by decide)), ?_⟩
      refine q _ ((KD.of (e1.trans e2)).trans (KD.dK hdic)) ⟨⟨dx2, ?_⟩, _, upd_same, hkr.put hfi (tk_dK hdic) (hv.tk (tk_dK hdic))⟩
      rw [upd_ne hD.ne]
      exact hins2
    · refine ifF tell_in ⟨_, rfl, rfl, _, rfl, ifF (neS sw_wish) ?_⟩
      refine ⟨_, rfl, a, dx, _, rfl, hins, rfl, _, rfl, _, rfl, t, rfl, ⟨_, ht⟩, fun D hD' => cl_list (xs := [.str n]) ht (fun _ => true) (fun _ v H' => LY K H' l v) hD' (by show 1 ≤ 40000; decide) (fun _ => rfl) (fun _ _ _ _ h k => h.tk k.tk) (fun i H2 _ _ Q q => q H2 (Ex.refl H2)) (fun i H2 acc hi _ e2 _ Q q => ?_) (fun H2 out e2 hD2 hp => ?_)⟩
      · have hD2 := hD1.ex e2
        obtain ⟨dx2, hins2⟩ := hD2.ins
        have hi0 : i = 0 := by
          have : i < 1 := hi
          omega
        subst hi0
        exact ⟨_, rfl, a, dx2, _, rfl, hins2, rfl, _, rfl, a, d, g, ns, n, rfl, hD2, fun l' v e hv => q v H2 (Ex.refl H2) (by rw [hf] at e; cases e; exact hv), fun e => by rw [hf] at e; cases e⟩
      · have ek : kept ([V.str n] : List V).length (fun _ => true) = [0] := rfl
        rw [ek] at hp
        cases hp with
        | cons hv hr =>
          cases hr
          exact ⟨a, D, l, _, rfl, .inl (.inl hD2), hv, hO, fun H' e => q H' ((e1.trans e2).trans e)⟩
    · refine ifF tell_in ⟨_, rfl, rfl, _, rfl, ifF (neS sw_wish) ?_⟩
      refine ⟨_, rfl, a, dx, _, rfl, hins, rfl, _, rfl, _, rfl, t, rfl, ⟨_, ht⟩, fun D hD' => cl_list (xs := [.str n]) ht (fun _ => true) (fun _ v H' => False) hD' (by show 1 ≤ 40000; decide) (fun _ => rfl) (fun _ _ _ _ h k => h) (fun i H2 _ _ Q q => q H2 (Ex.refl H2)) (fun i H2 acc hi _ e2 _ Q _ => ?_) (fun H2 out e2 hD2 hp => ?_)⟩
      · have hD2 := hD1.ex e2
        obtain ⟨dx2, hins2⟩ := hD2.ins
        have hi0 : i = 0 := by
          have : i < 1 := hi
          omega
        subst hi0
        exact ⟨_, rfl, a, dx2, _, rfl, hins2, rfl, _, rfl, a, d, g, ns, n, rfl, hD2, (fun l' v e hv => by rw [hf] at e; cases e), fun _ dd => q dd H2 (e1.trans e2)⟩
      · have ek : kept ([V.str n] : List V).length (fun _ => true) = [0] := rfl
        rw [ek] at hp
        cases hp with
        | cons hv hr => exact hv.elim
/-! ### _law_no_name(desk, row) -/
def sp__law_no_name (K : PySem.W.Frag) : Sp := fun vs H Q _ => ∃ (a d : Addr) (f : Ks) (ns : List Str) (n : Str), vs = [.ref a, .str (Row.tell n).text] ∧ Nm n ∧ Dk K H a d f ns ∧ ns.length ≤ 5 ∧ f n = none ∧ ∀ H', Ex H H' → Q (.bl true) H'
theorem sc__law_no_name : FnScope ["_law_desk", "_law_row"] ["_law_desk", "_law_row"] (defScope sLNoName) := ⟨rfl, rfl, rfl, by decide +kernel, rfl, by decide +kernel, by decide +kernel⟩
theorem ok__law_no_name (F : At K mg "_law_no_name" "_law_no_name" sLNoName) (TD : Td K mg) (G_say : MCal P w K mg base (L2.CX P w) 7 (He.ga K "Desk") "say" ["self", "row"] (sp_say K)) : Cal P w K mg base CX0 8 "_law_no_name" ["_law_desk", "_law_row"] (sp__law_no_name K) := by
  have S := sc__law_no_name
  refine F.cal S (fun _ _ _ _ _ _ us hl => match us, hl with | [_, _], _ => rfl) (fun vs H Q E h => ?_) (fun cdv f A outer s H vs Q E hr h => ?_)
  · obtain ⟨a, d, f, ns, n, rfl, _⟩ := h
    rfl
  · obtain ⟨a, d, g, ns, n, rfl, hn, hD, hns, hf, q⟩ := h
    obtain ⟨fS, fdS, F_say, m_say, b_say⟩ := G_say.ex
    obtain ⟨dx, hins⟩ := hD.ins
    refine ⟨_, (pss_cons (ps_try_only rfl rfl ⟨rfl, rfl, .inl TD.noname⟩ takes0 (fun W pn xe tk _ => pss_one (ps_expr (pe_meth (pv 0) TD.cls m_say F_say (hr.mono (by decide)) b_say .nil (L2.passes_call tk (E := fun cls d H => ∀ σ, W cls d σ H) (fun _ _ σ _ h => h σ)) (pa_cons (pv 1) pa_nil)))) (fun _ _ _ _ _ _ _ => pss_one (ps_ret pe_bl))) (pss_one (ps_ret pe_bl))), ?_⟩
    refine ⟨_, rfl, a, dx, _, rfl, hins, rfl, _, rfl, a, d, g, ns, .tell n, rfl, hn, hD, hns, .inr (.inr ⟨n, rfl, hf, fun dd H' e σ => ⟨true, TD.exm, fun _ b hb => ?_, fun z => by cases z⟩⟩)⟩
    exact q H' e
end
end EM
set_option Elab.async false
set_option linter.all false
set_option maxRecDepth 100000
set_option maxHeartbeats 2000000
namespace EM
open PySem PySem.Spec PyProof.Rows L2 Evl
section
variable {P : Program} {w : World} {K : PySem.W.Frag} {mg : Str → Option Value} {base : Heap}
/-! ### _law_cell(script, k) -/
def sp__law_cell (K : PySem.W.Frag) : Sp := fun vs H Q _ => ∃ (a : Addr) (xs : List Int) (k : Nat), vs = [.ref a, .int (k : Int)] ∧ SqL K H a (iv xs) ∧ k ≤ 63 ∧ ∀ (i : Int) H', Ex H H' → Q (.int i) H'
theorem sc__law_cell : FnScope ["_law_script", "_law_k", "_law_state", "_law_cell_here"] ["_law_script", "_law_k"] (defScope sLCell) := ⟨rfl, rfl, rfl, by decide +kernel, rfl, by decide +kernel, by decide +kernel⟩
theorem ok__law_cell (F : At K mg "_law_cell" "_law_cell" sLCell) (T : Tx K w mg) : Cal P w K mg base CX0 1 "_law_cell" ["_law_script", "_law_k"] (sp__law_cell K) := by
  have S := sc__law_cell
  refine F.cal S (fun _ _ _ _ _ _ us hl => match us, hl with | [_, _], _ => rfl) (fun vs H Q E h => ?_) (fun cdv f A outer s H vs Q E hr h => ?_)
  · obtain ⟨a, xs, k, rfl, _⟩ := h
    rfl
  · obtain ⟨a, xs, k, rfl, hS, hk, q⟩ := h
    refine ⟨_, (pss_cons (ps_if (pt_cmpR (op_lt) (pv 1) (pe_callB (xlen_seq K) rfl T.len bt_len (pa_cons (pv 0) pa_nil)) (nomark _))
      (pss_one (ps_ret (pe_ix (xix_list K) (pv 0) (pv 1) (fun _ _ => rfl))))
      pss_nil)
      (pss_cons (ps_set (i := 2) S.nd rfl (by first | exact Or.inl rfl | exact Or.inr rfl) (pe_op (op_mod) (pe_op (op_mul) pe_int (pe_op (op_add) (pe_op (op_add) (pe_op (op_mul) (pv 1) (pv 1)) (pe_op (op_mul) pe_int (pv 1))) pe_int)) pe_int))
      (pss_cons (ps_for PassesOwn.never rfl (xpi_list K (pe_slice (xsl_list K) (pv 0) po_none (po_some pe_int))) (pg_name (i := 3) S.nd rfl (by first | exact Or.inl rfl | exact Or.inr rfl))
      (pss_one (ps_set (i := 2) S.nd rfl (by first | exact Or.inl rfl | exact Or.inr rfl) (pe_op (op_mod) (pe_op (op_add) (pe_op (op_mul) (pv 2) pe_int) (pv 3)) pe_int))))
      (pss_one (ps_ret (pv 2)))))), ?_⟩
    refine ⟨_, rfl, _, rfl, a, _, rfl, .inl hS, _, _, rfl, rfl, _, rfl, ite2 (fun hc => ?_) (fun hc => ?_)⟩
    · have hlt := of_decide_eq_true hc
      have h2 : k < (iv xs).length := by omega
      have h3 : (iv xs)[k]? = some (.int (xs.getD k 0)) := by
        rw [iv_len] at h2
        simp [iv, List.getD_eq_getElem?_getD, h2]
      exact ⟨_, rfl, _, rfl, a, _, _, _, rfl, rfl, hS, atI_ge h3, q _ H (Ex.refl H)⟩
    · refine ⟨_, rfl, _, rfl, _, _, rfl, rfl, cmulL (by omega), _, rfl, _, _, rfl, rfl, cmulL (by decide), _, _, rfl, rfl, _, _, rfl, rfl, _, _, rfl, rfl, cmulL (by decide), _, _, rfl, rfl, (by show (0 : Int) < _; decide), ?_⟩
      refine ⟨_, rfl, 3, rfl, a, _, rfl, hS, fun t nt => ?_⟩
      have et := Ex.new nt (o := .lst (cutV (iv xs) none (some 3)))
      have ec : cutV (iv xs) none (some 3) = iv (xs.take 3) := by
        rw [show (3 : Int) = ((3 : Nat) : Int) from rfl, cutV_take0]
        unfold iv
        rw [List.map_take]
      rw [ec] at et ⊢
      refine ⟨t, rfl, ⟨_, .inl (.inl upd_same)⟩, fr_list (xs := iv (xs.take 3)) (fun i σ H' => ∃ (st : Int) (u : Option V), σ = [some (.ref a), some (.int (k : Int)), some (.int st), u] ∧ Ex H H' ∧ SqL K H' t (iv (xs.take 3)))
        ⟨_, _, rfl, et, .inl (.inl upd_same)⟩ (fun i σ H' _ ⟨_, _, _, _, e⟩ => e) ?_ ?_⟩
      · rintro i σ H' hi ⟨st, u, rfl, e, hT⟩
        rw [iv_getD hi]
        exact ⟨_, rfl, _, _, rfl, rfl, cmulR (by decide), _, rfl, _, _, rfl, rfl, _, _, rfl, rfl, (by show (0 : Int) < _; decide), _, _, rfl, e, hT⟩
      · rintro σ H' ⟨st, u, rfl, e, hT⟩
        exact ⟨_, rfl, q _ H' e⟩
/-! ### _law_numbers(cell, many) -/
def sp__law_numbers (K : PySem.W.Frag) : Sp := fun vs H Q _ => ∃ (c : Int) (m : Nat), vs = [.int c, .int (m : Int)] ∧ m ≤ 60 ∧ ∀ v H' (ns : List Nat), Ex H H' → ns.length = m → (∃ a, v = .ref a ∧ H a = none ∧ H' a = some (.lst (nv ns))) → Q v H'
theorem sc__law_numbers : FnScope ["_law_cell_here", "_law_many", "_law_found", "_law_state", "_law_digits", "_law_k"] ["_law_cell_here", "_law_many"] (defScope sLNumbers) := ⟨rfl, rfl, rfl, by decide +kernel, rfl, by decide +kernel, by decide +kernel⟩
theorem ok__law_numbers (F : At K mg "_law_numbers" "_law_numbers" sLNumbers) (T : Tx K w mg) : Cal P w K mg base CX0 1 "_law_numbers" ["_law_cell_here", "_law_many"] (sp__law_numbers K) := by
  have S := sc__law_numbers
  refine F.cal S (fun _ _ _ _ _ _ us hl => match us, hl with | [_, _], _ => rfl) (fun vs H Q E h => ?_) (fun cdv f A outer s H vs Q E hr h => ?_)
  · obtain ⟨c, m, rfl, _⟩ := h
    rfl
  · obtain ⟨c, m, rfl, hm, q⟩ := h
    refine ⟨_, (pss_cons (ps_set (i := 2) S.nd rfl (by first | exact Or.inl rfl | exact Or.inr rfl) (pe_lst pa_nil))
      (pss_cons (ps_set (i := 3) S.nd rfl (by first | exact Or.inl rfl | exact Or.inr rfl) (pe_op (op_mod) (pe_op (op_mul) (pe_op (op_add) (pe_op (op_mod) (pv 0) pe_int) pe_int) pe_int) pe_int))
      (pss_cons (ps_set (i := 4) S.nd rfl (by first | exact Or.inl rfl | exact Or.inr rfl) pe_int)
      (pss_cons (ps_if (PW.pt (pw_or (pt_cmpR (op_lt) (pv 0) pe_int (nomark _)) (pw_or1 (pt_cmpR (op_ge) (pv 0) (pe_op (op_pow) pe_int pe_int) (nomark _)))))
      (pss_one (ps_set (i := 4) S.nd rfl (by first | exact Or.inl rfl | exact Or.inr rfl) (pe_callB call_abs rfl T.abs bt_abs (pa_cons (pv 0) pa_nil))))
      pss_nil)
      (pss_cons (ps_for PassesOwn.never rfl (pi_range1 rfl T.range (pa_cons (pv 1) pa_nil)) (pg_name (i := 5) S.nd rfl (by first | exact Or.inl rfl | exact Or.inr rfl))
      (pss_cons (ps_set (i := 3) S.nd rfl (by first | exact Or.inl rfl | exact Or.inr rfl) (pe_op (op_mod) (pe_op (op_add) (pe_op (op_add) (pe_op (op_mul) (pv 3) (pe_op (op_add) (pe_op (op_mod) (pv 3) pe_int) pe_int)) (pe_op (op_mul) pe_int (pv 5))) pe_int) pe_int))
      (pss_cons (ps_expr (xpe_bm K PySem.F.plainAttrs_list PySem.F.slot_list_append PySem.F.type_list_append mt_append (pv 2) (pa_cons (pe_ix (xix_list K) (pe_lst (pa_cons (pv 3) (pa_cons (pe_op (op_mod) (pv 4) pe_int) pa_nil))) (pe_callTy call_int1 rfl T.int bt_int (pa_cons (pe_cmpR (op_gt) (pv 4) pe_int (nomark _)) pa_nil)) (fun _ _ => rfl)) pa_nil)))
      (pss_one (ps_set (i := 4) S.nd rfl (by first | exact Or.inl rfl | exact Or.inr rfl) (pe_op (op_fdiv) (pv 4) pe_int))))))
      (pss_one (ps_ret (pv 2)))))))), ?_⟩
    refine ⟨Nat.zero_le _, fun d nd => ?_⟩
    have ed := Ex.new nd (o := .lst [])
    refine ⟨_, rfl, _, _, rfl, rfl, (by show (0 : Int) < _; decide), _, _, rfl, rfl, _, _, rfl, rfl, cmulR (by decide), _, _, rfl, rfl, (by show (0 : Int) < _; decide), ?_⟩
    refine asg_c (v := .int 0) (i := 4) ?_
    dsimp only
    refine seq_first (fun σ' H' => ∃ (st dg : Int), 0 ≤ st ∧ 0 ≤ dg ∧ σ' = [some (.int c), some (.int (m : Int)), some (.ref d), some (.int st), some (.int dg), none] ∧ H' = upd H d (.lst [])) ?_ ?_
    · rintro σ' H' ⟨st, dg, h1, h2, rfl, rfl⟩
      refine ⟨_, rfl, (m : Int), rfl, by omega, by omega, fr_range (n := m) (fun i σ H' => ∃ (st dg : Int) (u : Option V) (ns : List Nat), 0 ≤ st ∧ 0 ≤ dg ∧ σ = [some (.int c), some (.int (m : Int)), some (.ref d), some (.int st), some (.int dg), u] ∧ Ex H H' ∧ H' d = some (.lst (nv ns)) ∧ ns.length = i)
        ⟨st, dg, _, [], h1, h2, rfl, ed, upd_same, rfl⟩ ?_ ?_⟩
      · rintro i σ H' hi ⟨st, dg, u, ns, h3, h4, rfl, e, hd, hl⟩
        refine ⟨_, rfl, _, rfl, _, _, rfl, rfl, (by show (0 : Int) < _; decide), _, _, rfl, rfl, _, _, rfl, rfl, cmulR (by omega), _, rfl, _, _, rfl, rfl, cmulL (by decide), _, _, rfl, rfl, _, _, rfl, rfl, _, _, rfl, rfl, (by show (0 : Int) < _; decide), ?_⟩
        refine ⟨_, rfl, .inl ⟨rfl, _, .inl (.inl hd)⟩, ?_⟩
        have hm0 : (0 : Int) ≤ dg % 1000000 := Int.emod_nonneg _ (by decide)
        refine ⟨_, rfl, _, rfl, _, _, rfl, rfl, (by show (0 : Int) < _; decide), by show 2 ≤ sizeLine; decide, fun o no => ?_⟩
        have hst0 : 0 ≤ ((st * (st % 65521 + 40487) + 7 * (i : Int) + 5) % 1999999973) := Int.emod_nonneg _ (by decide)
        have eo := Ex.new no (o := .lst [.int ((st * (st % 65521 + 40487) + 7 * (i : Int) + 5) % 1999999973), .int (dg % 1000000)])
        refine ⟨_, rfl, _, _, rfl, rfl, .inr ⟨_, rfl, ?_⟩⟩
        have hd2 := eo _ _ hd
        by_cases hp : 0 < dg
        · rw [if_pos (decide_eq_true hp)]
          refine ⟨o, _, 1, .int (dg % 1000000), rfl, rfl, .inl (.inl upd_same), rfl, d, _, _, rfl, rfl, hd2, by rw [nv_len]; exact sz_lt (by omega), _, rfl, _, _, rfl, rfl, ⟨by decide, by decide⟩, ?_⟩
          refine ⟨((st * (st % 65521 + 40487) + 7 * (i : Int) + 5) % 1999999973), dg / 1000000, _, ns ++ [(dg % 1000000).toNat], hst0, Int.ediv_nonneg h4 (by decide), rfl, Ex.mut (e.trans eo) nd, ?_, by simp [hl]⟩
          rw [nv_append, show nv [(dg % 1000000).toNat] = [.int (dg % 1000000)] from congrArg (fun z => [V.int z]) (Int.toNat_of_nonneg hm0)]
          exact upd_same
        · rw [if_neg (by rw [decide_eq_false hp]; decide)]
          refine ⟨o, _, 0, .int ((st * (st % 65521 + 40487) + 7 * (i : Int) + 5) % 1999999973), rfl, rfl, .inl (.inl upd_same), rfl, d, _, _, rfl, rfl, hd2, by rw [nv_len]; exact sz_lt (by omega), _, rfl, _, _, rfl, rfl, ⟨by decide, by decide⟩, ?_⟩
          refine ⟨((st * (st % 65521 + 40487) + 7 * (i : Int) + 5) % 1999999973), dg / 1000000, _, ns ++ [((st * (st % 65521 + 40487) + 7 * (i : Int) + 5) % 1999999973).toNat], hst0, Int.ediv_nonneg h4 (by decide), rfl, Ex.mut (e.trans eo) nd, ?_, by simp [hl]⟩
          rw [nv_append, show nv [((st * (st % 65521 + 40487) + 7 * (i : Int) + 5) % 1999999973).toNat] = [.int ((st * (st % 65521 + 40487) + 7 * (i : Int) + 5) % 1999999973)] from congrArg (fun z => [V.int z]) (Int.toNat_of_nonneg hst0)]
          exact upd_same
      · rintro σ H' ⟨st, dg, u, ns, h3, h4, rfl, e, hd, hl⟩
        exact ⟨_, rfl, q _ H' ns e hl ⟨d, rfl, nd, hd⟩⟩
    · intro key
      have hs0 : 0 ≤ (c % 1999999973 + 31) * 765432101 % 1999999973 := Int.emod_nonneg _ (by decide)
      have ha : 0 ≤ (if c < 0 then -c else c) := by split <;> omega
      refine ⟨_, rfl, _, _, rfl, rfl, _, rfl, ite2 (fun hc => ?_) (fun hc => ?_)⟩
      · exact ifT rfl ⟨_, rfl, c, rfl, key _ _ ⟨_, _, hs0, ha, rfl, rfl⟩⟩
      · refine ⟨_, rfl, _, _, rfl, rfl, ⟨by decide, by decide, by decide⟩, _, _, rfl, rfl, _, rfl, ite2 (fun hc => ?_) (fun hc => ?_)⟩
        · exact ⟨_, rfl, c, rfl, key _ _ ⟨_, _, hs0, ha, rfl, rfl⟩⟩
        · exact key _ _ ⟨_, 0, hs0, by decide, rfl, rfl⟩
end
end EM
set_option Elab.async false
set_option linter.all false
set_option maxRecDepth 100000
set_option maxHeartbeats 2000000
namespace EM
open PySem PySem.Spec PyProof.Rows L2 Evl
section
variable {P : Program} {w : World} {K : PySem.W.Frag} {mg : Str → Option Value} {base : Heap}
/-! ### _law_mask(x, many) -/
def sp__law_mask (K : PySem.W.Frag) : Sp := fun vs H Q _ => ∃ x m : Nat, vs = [.int (x : Int), .int (m : Int)] ∧ m ≤ 60 ∧ ∀ v H' (b : List Nat), Ex H H' → Blk m b → TI K H' b v → Q v H'
def maskB (x p : Nat) : Bool := decide (V.int (Builtin.bitAnd ((x : Int) / 2 ^ ((p : Nat) : Int).toNat) 1) = V.int 1)
theorem sc__law_mask : FnScope ["_law_x", "_law_many", "_law_point"] ["_law_x", "_law_many"] (defScope sLMask) := ⟨rfl, rfl, rfl, by decide +kernel, rfl, by decide +kernel, by decide +kernel⟩
theorem ok__law_mask (F : At K mg "_law_mask" "_law_mask" sLMask) (T : Tx K w mg) : Cal P w K mg base CX0 1 "_law_mask" ["_law_x", "_law_many"] (sp__law_mask K) := by
  have S := sc__law_mask
  refine F.cal S (fun _ _ _ _ _ _ us hl => match us, hl with | [_, _], _ => rfl) (fun vs H Q E h => ?_) (fun cdv f A outer s H vs Q E hr h => ?_)
  · obtain ⟨x, m, rfl, _⟩ := h
    rfl
  · obtain ⟨x, m, rfl, hm, q⟩ := h
    refine ⟨_, (pss_one (ps_ret (pe_callTy (xtuple_of K) rfl T.tuple bt_tuple (pa_cons (pe_lc (own := [("_law_point", 2)]) (g := gName 2) rfl S.nd (pi_range1 rfl T.range (pa_cons (pv 1) pa_nil)) (blkOk_by (by kernel_rfl)) (fun _ _ _ _ _ => (pg_name (i := 2) S.nd rfl (by first | exact Or.inl rfl | exact Or.inr rfl))) (fun _ _ _ _ _ => (pts_one (pt_cmpR (op_eq) (pe_op (op_and) (pe_op (op_shr) (pv 0) (pv 2)) pe_int) pe_int (nomark _)))) (fun _ _ _ _ _ => (pv 2))) pa_nil)))), ?_⟩
    refine ⟨_, rfl, (m : Int), rfl, by omega, by omega, fun D hD => cl_range (n := m) (maskB x) (fun i v _ => v = .int ((i : Nat) : Int)) hD (by omega) (fun _ => rfl) (fun _ _ _ _ h _ => h) (fun i H2 _ e Q q => ⟨_, rfl, _, rfl, _, _, rfl, rfl, (by show (0 : Int) ≤ _; omega), _, _, rfl, rfl, rfl, _, rfl, q H2 (Ex.refl H2)⟩) (fun i H2 _ _ _ e _ Q q => ⟨_, rfl, q _ H2 (Ex.refl H2) rfl⟩) (fun H' out e hD' hp => ?_)⟩
    refine ⟨D, out, rfl, .inl ⟨.inl (.inl hD'), fun t ht => q _ _ _ (e.trans (Ex.new ht)) (blk_range m (maskB x)) ⟨t, rfl, ?_⟩⟩⟩
    rw [show out = nv (kept m (maskB x)) from paired_eq hp]
    exact .inl (.inl upd_same)
/-! ### _law_of_size(x, many, size) -/
def sp__law_of_size (K : PySem.W.Frag) : Sp := fun vs H Q _ => ∃ x m z : Nat, vs = [.int (x : Int), .int (m : Int), .int (z : Int)] ∧ m ≤ 60 ∧ ∀ v H' (b : List Nat), Ex H H' → Blk m b → TI K H' b v → Q v H'
theorem seq_ix {i n : Nat} (h : i < n) : seqIndex? (i : Int) n = some i := by
  unfold seqIndex?
  have h1 : ¬ ((i : Int) < 0) := by omega
  rw [if_neg h1]
  have h2 : (decide (0 ≤ (i : Int)) && decide ((i : Int) < (n : Int))) = true := by
    rw [decide_eq_true (by omega), decide_eq_true (by omega)]
    rfl
  rw [if_pos h2, Int.toNat_natCast]
theorem nv_erase : ∀ (b : List Nat) (k : Nat), (nv b).eraseIdx k = nv (b.eraseIdx k)
  | [], k => by simp [nv]
  | x :: b, 0 => rfl
  | x :: b, k + 1 => by
    show V.int (x : Int) :: (nv b).eraseIdx k = V.int (x : Int) :: nv (b.eraseIdx k)
    rw [nv_erase b k]
theorem rg_nv (m : Nat) : rgV 0 (m : Int) = nv (List.range m) := by
  unfold rgV nv
  simp
theorem sc__law_of_size : FnScope ["_law_x", "_law_many", "_law_size", "_law_left"] ["_law_x", "_law_many", "_law_size"] (defScope sLOfSize) := ⟨rfl, rfl, rfl, by decide +kernel, rfl, by decide +kernel, by decide +kernel⟩
theorem ok__law_of_size (F : At K mg "_law_of_size" "_law_of_size" sLOfSize) (T : Tx K w mg) : Cal P w K mg base CX0 1 "_law_of_size" ["_law_x", "_law_many", "_law_size"] (sp__law_of_size K) := by
  have S := sc__law_of_size
  refine F.cal S (fun _ _ _ _ _ _ us hl => match us, hl with | [_, _, _], _ => rfl) (fun vs H Q E h => ?_) (fun cdv f A outer s H vs Q E hr h => ?_)
  · obtain ⟨x, m, z, rfl, _⟩ := h
    rfl
  · obtain ⟨x, m, z, rfl, hm, q⟩ := h
    refine ⟨_, (pss_cons (ps_set (i := 3) S.nd rfl (by first | exact Or.inl rfl | exact Or.inr rfl) (pe_listRg rfl rfl T.list (prg_1 rfl T.range (pv 1))))
      (pss_cons (ps_while PassesOwn.never (pt_cmpR (op_gt) (pe_callB (xlen_seq K) rfl T.len bt_len (pa_cons (pv 3) pa_nil)) (pv 2) (nomark _))
      (pss_cons (ps_expr (xpe_bm K PySem.F.plainAttrs_list PySem.F.slot_list_pop PySem.F.type_list_pop mt_popAt (pv 3) (pa_cons (pe_op (op_mod) (pv 0) (pe_callB (xlen_seq K) rfl T.len bt_len (pa_cons (pv 3) pa_nil))) pa_nil)))
      (pss_one (ps_set (i := 0) S.nd rfl (by first | exact Or.inl rfl | exact Or.inr rfl) (pe_op (op_add) (pe_op (op_fdiv) (pv 0) pe_int) pe_int)))))
      (pss_one (ps_ret (pe_callTy (xtuple_of K) rfl T.tuple bt_tuple (pa_cons (pv 3) pa_nil)))))), ?_⟩
    refine ⟨_, rfl, (m : Int), rfl, ⟨by omega, by omega, by omega, by omega, ?_⟩, fun l nl => ?_⟩
    · omega
    rw [rg_nv]
    have el := Ex.new nl (o := .lst (nv (List.range m)))
    refine ⟨fun k σ H' => ∃ (x : Nat) (b : List Nat), σ = [some (.int (x : Int)), some (.int (m : Int)), some (.int (z : Int)), some (.ref l)] ∧ Ex H H' ∧ H' l = some (.lst (nv b)) ∧ Blk m b ∧ b.length = k, ⟨m, x, List.range m, rfl, el, upd_same, ⟨asc_range m, fun p hp => List.mem_range.mp hp⟩, List.length_range⟩, ?_⟩
    rintro k σ H' ⟨y, b, rfl, e, hl, hb, hk⟩
    refine ⟨_, rfl, l, _, rfl, .inl (.inl (.inl hl)), _, rfl, _, _, rfl, rfl, _, rfl, ite2 (fun hc => ?_) (fun hc => ?_)⟩
    · have hgt := of_decide_eq_true hc
      rw [nv_len] at hgt
      refine ⟨fun σ H' => ∃ (x : Nat) (b' : List Nat), σ = [some (.int (x : Int)), some (.int (m : Int)), some (.int (z : Int)), some (.ref l)] ∧ Ex H H' ∧ H' l = some (.lst (nv b')) ∧ Blk m b' ∧ b'.length < k, fun σ' H' ⟨x, b', h1, h2, h3, h4, h5⟩ => ⟨_, h5, x, b', h1, h2, h3, h4, rfl⟩, ?_⟩
      have hpos : 0 < b.length := by omega
      have hlt : y % b.length < b.length := Nat.mod_lt _ hpos
      have hmi : ((y : Int) % ((nv b).length : Int)) = ((y % b.length : Nat) : Int) := by
        rw [nv_len]
        exact (Int.natCast_emod y b.length).symm
      have hat : (nv b)[y % b.length]? = some (.int ((b.getD (y % b.length) 0 : Nat) : Int)) := nv_at (by simp [List.getD_eq_getElem?_getD, hlt])
      refine ⟨_, rfl, .inl ⟨rfl, _, .inl (.inl hl)⟩, _, rfl, _, rfl, l, _, rfl, .inl (.inl (.inl hl)), _, _, rfl, rfl, (by show (0 : Int) < _; rw [nv_len]; omega), l, _, _, y % b.length, _, rfl, rfl, hl, ?_, ?_, ?_, hat, ?_⟩
      · show _ ≤ (y : Int) % _
        rw [hmi]
        omega
      · show (y : Int) % _ < _
        rw [hmi, nv_len] at *
        have := hb.len
        omega
      · show seqIndex? ((y : Int) % _) _ = _
        rw [hmi, nv_len]
        exact seq_ix hlt
      · rw [nv_erase]
        refine ⟨_, rfl, _, _, rfl, rfl, ⟨by decide, by decide⟩, _, _, rfl, rfl, y / 5 + 7, b.eraseIdx (y % b.length), ?_, Ex.mut e nl, upd_same, ⟨hb.asc.sublist (List.eraseIdx_sublist _ _), fun p hp => hb.bel p ((List.eraseIdx_sublist _ _).subset hp)⟩, ?_⟩
        · rw [show ((y / 5 + 7 : Nat) : Int) = (y : Int) / 5 + 7 by omega]
          rfl
        · rw [List.length_eraseIdx_of_lt hlt]
          omega
    · refine ⟨_, rfl, l, _, rfl, .inl ⟨.inl (.inl hl), fun t ht => q _ _ b (e.trans (Ex.new ht)) hb ⟨t, rfl, .inl (.inl upd_same)⟩⟩⟩
/-! ### _law_turned_base(base, many) -/
def sp__law_turned_base (K : PySem.W.Frag) : Sp := fun vs H Q _ => ∃ (b : List Nat) (m : Nat) (x : V), vs = [x, .int (m : Int)] ∧ TI K H b x ∧ 0 < m ∧ m ≤ 60 ∧ b.length ≤ 60 ∧ ∀ v H', Ex H H' → (∃ a vs, v = .ref a ∧ H' a = some (.lst vs) ∧ Paired (TI K H') ((List.range m).map fun t => turnF m t b) vs) → Q v H'
theorem map_getD {β : Type} (g : Nat → β) (b : List Nat) : (kept b.length fun _ => true).map (fun i => g (b.getD i 0)) = b.map g := by
  have e2 := kept_map (p := fun _ => true) (d := 0) b
  rw [List.filter_eq_self.mpr fun _ _ => rfl] at e2
  conv => rhs; rw [← e2]
  rw [List.map_map]
  rfl
theorem out_turn {b : List Nat} {t m : Nat} {out : List V} (hp : Paired (fun i v => v = V.int (((b.getD i 0 + t) % m : Nat) : Int)) (kept (nv b).length fun _ => true) out) : out = nv (b.map fun p => (p + t) % m) := by
  rw [paired_eq hp, nv_len, map_getD (fun p => V.int (((p + t) % m : Nat) : Int))]
  unfold nv
  rw [List.map_map]
  rfl
theorem emodN (p t m : Nat) : ((p : Int) + (t : Int)) % (m : Int) = (((p + t) % m : Nat) : Int) := by
  rw [Int.natCast_emod, Int.natCast_add]
theorem sc__law_turned_base : FnScope ["_law_base", "_law_many", "_law_point", "_law_turn"] ["_law_base", "_law_many"] (defScope sLTurnedBase) := ⟨rfl, rfl, rfl, by decide +kernel, rfl, by decide +kernel, by decide +kernel⟩
theorem ok__law_turned_base (F : At K mg "_law_turned_base" "_law_turned_base" sLTurnedBase) (T : Tx K w mg) : Cal P w K mg base CX0 1 "_law_turned_base" ["_law_base", "_law_many"] (sp__law_turned_base K) := by
  have S := sc__law_turned_base
  refine F.cal S (fun _ _ _ _ _ _ us hl => match us, hl with | [_, _], _ => rfl) (fun vs H Q E h => ?_) (fun cdv f A outer s H vs Q E hr h => ?_)
  · obtain ⟨b, m, x, rfl, _⟩ := h
    rfl
  · obtain ⟨b, m, x, rfl, hT, h0, hm, hl, q⟩ := h
    obtain ⟨a, rfl, hS⟩ := hT
    refine ⟨_, (pss_one (ps_ret (pe_lc (own := [("_law_turn", 3)]) (g := gName 3) rfl S.nd (pi_range1 rfl T.range (pa_cons (pv 1) pa_nil)) (blkOk_by (by kernel_rfl)) (fun _ _ _ _ _ => (pg_name (i := 3) S.nd rfl (by first | exact Or.inl rfl | exact Or.inr rfl))) (fun _ _ _ _ _ => pts_nil) (fun _ _ _ _ _ => (pe_callTy (xtuple_of K) rfl T.tuple bt_tuple (pa_cons (pe_callB (xsortedI K) rfl T.sorted bt_sorted (pa_cons (pe_lc (own := [("_law_point", 2)]) (g := gName 2) rfl S.nd (xpi_tup K (pv 0)) (blkOk_by (by kernel_rfl)) (fun _ _ _ _ _ => (pg_name (i := 2) S.nd rfl (by first | exact Or.inl rfl | exact Or.inr rfl))) (fun _ _ _ _ _ => pts_nil) (fun _ _ _ _ _ => (pe_op (op_mod) (pe_op (op_add) (pv 2) (pv 3)) (pv 1)))) pa_nil)) pa_nil)))))), ?_⟩
    refine ⟨_, rfl, (m : Int), rfl, by omega, by omega, fun D hD => cl_range (n := m) (fun _ => true) (fun t v H' => TI K H' (turnF m t b) v) hD (by omega) (fun _ => rfl) (fun _ _ _ _ h k => h.tk k.tk) (fun i H2 _ _ Q q => q H2 (Ex.refl H2)) (fun t H2 acc _ _ e _ Q q => ?_) (fun H' out e hD' hp => ?_)⟩
    · refine ⟨_, rfl, a, rfl, ⟨_, ex_t e hS⟩, fun D2 hD2 => cl_tup (ex_t e hS) (fun _ => true) (fun i v _ => v = .int (((b.getD i 0 + t) % m : Nat) : Int)) hD2 (by rw [nv_len]; omega) (fun _ => rfl) (fun _ _ _ _ h _ => h) (fun i H3 _ _ Q q => q H3 (Ex.refl H3)) (fun i H3 acc hi _ e2 _ Q q => ?_) (fun H3 out e2 hD3 hp => ?_)⟩
      · obtain ⟨p, _, _, h4, h5⟩ := nv_getD hi
        refine ⟨_, rfl, _, rfl, (p : Int), (t : Int), by rw [h5], rfl, _, rfl, _, _, rfl, rfl, (by show (0 : Int) < _; omega), q _ H3 (Ex.refl H3) ?_⟩
        rw [h4]
        exact congrArg V.int (emodN p t m)
      · have eo := out_turn hp
        subst eo
        refine ⟨D2, _, rfl, by rw [← nv_ints]; exact .inl (.inl hD3), fun ns p hp hs hn => ?_⟩
        refine ⟨p, _, rfl, .inl ⟨.inl (.inl upd_same), fun t' ht => ?_⟩⟩
        refine q _ _ ((e2.trans (Ex.new hn)).trans (Ex.new ht)) ⟨t', rfl, ?_⟩
        have e3 := sort_ints hp hs
        unfold turnF
        rw [nv_ints, ← e3]
        exact .inl (.inl upd_same)
    · rw [kept_all] at hp
      exact q _ H' e ⟨D, out, rfl, hD', paired_mapl hp⟩
/-! ### _law_turned_some(some, x) -/
def sp__law_turned_some (K : PySem.W.Frag) : Sp := fun vs H Q _ => ∃ (b : List Nat) (x : Nat) (v0 : V), vs = [v0, .int (x : Int)] ∧ TI K H b v0 ∧ b.length ≤ 60 ∧ ∀ v H' (c : List Nat), Ex H H' → c.Perm b → (∃ p, v = .ref p ∧ H p = none ∧ H' p = some (.lst (nv c))) → Q v H'
theorem sc__law_turned_some : FnScope ["_law_some", "_law_x", "_law_at", "_law_found"] ["_law_some", "_law_x"] (defScope sLTurnedSome) := ⟨rfl, rfl, rfl, by decide +kernel, rfl, by decide +kernel, by decide +kernel⟩
theorem ok__law_turned_some (F : At K mg "_law_turned_some" "_law_turned_some" sLTurnedSome) (T : Tx K w mg) : Cal P w K mg base CX0 1 "_law_turned_some" ["_law_some", "_law_x"] (sp__law_turned_some K) := by
  have S := sc__law_turned_some
  refine F.cal S (fun _ _ _ _ _ _ us hl => match us, hl with | [_, _], _ => rfl) (fun vs H Q E h => ?_) (fun cdv f A outer s H vs Q E hr h => ?_)
  · obtain ⟨b, x, v0, rfl, _⟩ := h
    rfl
  · obtain ⟨b, x, v0, rfl, hT, hl, q⟩ := h
    obtain ⟨a, rfl, hS⟩ := hT
    refine ⟨_, (pss_cons (ps_set (i := 2) S.nd rfl (by first | exact Or.inl rfl | exact Or.inr rfl) pe_int)
      (pss_cons (ps_if (pt_cmpR (op_gt) (pe_callB (xlen_seq K) rfl T.len bt_len (pa_cons (pv 0) pa_nil)) pe_int (nomark _))
      (pss_one (ps_set (i := 2) S.nd rfl (by first | exact Or.inl rfl | exact Or.inr rfl) (pe_op (op_mod) (pe_op (op_fdiv) (pv 1) pe_int) (pe_callB (xlen_seq K) rfl T.len bt_len (pa_cons (pv 0) pa_nil)))))
      pss_nil)
      (pss_cons (ps_set (i := 3) S.nd rfl (by first | exact Or.inl rfl | exact Or.inr rfl) (pe_callTy (xlist_of K) rfl T.list bt_list (pa_cons (pe_op (xop_catA K) (pe_slice (xsl_tupA K) (pv 0) (po_some (pv 2)) po_none) (pe_slice (xsl_tupA K) (pv 0) po_none (po_some (pv 2)))) pa_nil)))
      (pss_one (ps_ret (pe_ix (xix_list K) (pe_lst (pa_cons (pv 3) (pa_cons (xpe_revL K (pv 3)) pa_nil))) (pe_op (op_mod) (pe_op (op_fdiv) (pv 1) pe_int) pe_int) (fun _ _ => rfl))))))), ?_⟩
    refine asg_c (v := .int 0) (i := 2) ?_
    try dsimp only
    refine seq_first (fun σ' H' => ∃ k : Nat, k ≤ b.length ∧ σ' = [some (.ref a), some (.int (x : Int)), some (.int (k : Int)), none] ∧ H' = H) ?_ ?_
    · rintro σ' H' ⟨k, hk, rfl, rfl⟩
      have hk' : k ≤ (nv b).length := by rw [nv_len]; exact hk
      refine ⟨_, rfl, _, rfl, _, rfl, ?_⟩
      dsimp only [tNoPart]
      refine slA_of hS fun p1 H1 e1 h1 => ⟨_, rfl, _, rfl, _, rfl, ?_⟩
      dsimp only [tNoPart]
      refine slA_of (ex_t e1 hS) fun p2 H2 e2 h2 => ?_
      rw [cutV_drop hk', nv_drop] at h1
      rw [cutV_take hk', nv_take] at h2
      have hlen : (b.drop k).length + (b.take k).length = b.length := by
        rw [List.length_drop, List.length_take]
        omega
      refine catA_of (ex_t e2 h1) h2 (by rw [nv_len, nv_len]; exact len_nat (by omega)) fun p3 H3 e3 h3 => ?_
      rw [← nv_append] at h3
      have e123 := (e1.trans e2).trans e3
      have hperm : (b.drop k ++ b.take k).Perm b := List.perm_append_comm.trans (by rw [List.take_append_drop])
      refine ⟨p3, _, rfl, .inr h3, fun l nl => ?_⟩
      have el := Ex.new nl (o := .lst (nv (b.drop k ++ b.take k)))
      refine ⟨_, rfl, _, rfl, l, _, rfl, .inl (.inl upd_same), fun r nr => ⟨by show 2 ≤ sizeLine; decide, fun o no => ?_⟩⟩
      have er := Ex.new nr (o := .lst (nv (b.drop k ++ b.take k)).reverse)
      have eo := Ex.new no (o := .lst [.ref l, .ref r])
      have eall := ((e123.trans el).trans er).trans eo
      have hix : ((x : Int) / 8192 % 2) = ((x / 8192 % 2 : Nat) : Int) := by omega
      have hat : atI [V.ref l, V.ref r] ((x : Int) / 8192 % 2) = some (if x / 8192 % 2 = 0 then V.ref l else V.ref r) := by
        rw [hix]
        refine atI_nat ?_
        have h2 : x / 8192 % 2 = 0 ∨ x / 8192 % 2 = 1 := by omega
        rcases h2 with h2 | h2
        · rw [h2]; rfl
        · rw [h2]; rfl
      refine ⟨_, rfl, _, _, rfl, rfl, ⟨by decide, by decide⟩, _, _, rfl, rfl, (by show (0 : Int) < _; decide), o, [.ref l, .ref r], _, _, rfl, rfl, .inl (.inl upd_same), hat, ?_⟩
      have hl3 := (er.trans eo) _ _ (upd_same (H := H3) (a := l) (o := .lst (nv (b.drop k ++ b.take k))))
      have hr3 := eo _ _ (upd_same (a := r) (o := .lst (nv (b.drop k ++ b.take k)).reverse))
      by_cases h2 : x / 8192 % 2 = 0
      · rw [if_pos h2]
        exact q _ _ _ eall hperm ⟨l, rfl, fresh_back e123 nl, hl3⟩
      · rw [if_neg h2]
        refine q _ _ (b.drop k ++ b.take k).reverse eall ((List.reverse_perm _).trans hperm) ⟨r, rfl, fresh_back (e123.trans el) nr, ?_⟩
        have z : nv (b.drop k ++ b.take k).reverse = (nv (b.drop k ++ b.take k)).reverse := List.map_reverse ..
        rw [z]
        exact hr3
    · intro key
      refine ⟨_, rfl, a, _, rfl, .inr hS, _, _, rfl, rfl, _, rfl, ite2 (fun hc => ?_) (fun hc => key _ _ ⟨0, Nat.zero_le _, rfl, rfl⟩)⟩
      have hgt := of_decide_eq_true hc
      rw [nv_len] at hgt
      refine ⟨_, rfl, _, _, rfl, rfl, ⟨by decide, by decide⟩, _, rfl, a, _, rfl, .inr hS, _, _, rfl, rfl, (by show (0 : Int) < _; rw [nv_len]; omega), key _ _ ⟨(x / 512) % b.length, ?_, ?_, rfl⟩⟩
      · exact Nat.le_of_lt (Nat.mod_lt _ (by omega))
      · rw [show ((x / 512 % b.length : Nat) : Int) = (x : Int) / 512 % ((nv b).length : Int) by rw [nv_len]; push_cast; rfl]
        rfl
end
end EM
set_option Elab.async false
set_option linter.all false
set_option maxRecDepth 100000
set_option maxHeartbeats 2000000
namespace EM
open PySem PySem.Spec PyProof.Rows L2 Evl
section
variable {P : Program} {w : World} {K : PySem.W.Frag} {mg : Str → Option Value} {base : Heap}
/-! ### _law_text(layout) -/
def sp__law_text (K : PySem.W.Frag) : Sp := fun vs H Q _ => ∃ (l : Lay) (x : V), vs = [x] ∧ LY K H l x ∧ LOk l ∧ ∀ H', Ex H H' → Q (.str (layT l)) H'
theorem words_step {n : Nat} {bs : List (List Nat)} {i : Nat} (hi : i < bs.length) : ((natS n ++ Str.ofString ":") :: (bs.take (i + 1)).map blkW).map V.str = ((natS n ++ Str.ofString ":") :: (bs.take i).map blkW).map V.str ++ [.str (blkW (bs.getD i []))] := by
  have e : bs.take (i + 1) = bs.take i ++ [bs.getD i []] := by
    rw [List.take_add_one, List.getElem?_eq_getElem hi]
    simp [List.getD_eq_getElem?_getD, hi]
  rw [e]
  simp
theorem set_last (xs : List V) (y z : V) : (xs ++ [y]).set xs.length z = xs ++ [z] := by
  induction xs with
  | nil => rfl
  | cons a r ih => exact congrArg (List.cons a) ih
theorem ixN_last (ws : List V) (y : V) : ixN (ws ++ [y]).length (-1) = some ws.length := by
  rw [List.length_append, List.length_cons, List.length_nil]
  unfold ixN
  rw [if_neg (by decide), if_pos (by omega)]
  exact congrArg some (by omega)
theorem nats_paired {b : List Nat} {out : List V} (hp : Paired (fun i v => v = V.str (natS (b.getD i 0))) (kept (nv b).length fun _ => true) out) : out = (b.map natS).map V.str := by
  rw [nv_len] at hp
  rw [paired_eq (paired_range (F := fun (p : Nat) (v : V) => v = .str (natS p)) hp), List.map_map]
  rfl
theorem sc__law_text : FnScope ["_law_layout", "_law_words", "_law_block", "_law_point"] ["_law_layout"] (defScope sLText) := ⟨rfl, rfl, rfl, by decide +kernel, rfl, by decide +kernel, by decide +kernel⟩
theorem ok__law_text (F : At K mg "_law_text" "_law_text" sLText) (T : Tx K w mg) : Cal P w K mg base CX0 1 "_law_text" ["_law_layout"] (sp__law_text K) := by
  have S := sc__law_text
  refine F.cal S (fun _ _ _ _ _ _ us hl => match us, hl with | [_], _ => rfl) (fun vs H Q E h => ?_) (fun cdv f A outer s H vs Q E hr h => ?_)
  · obtain ⟨l, x, rfl, _⟩ := h
    rfl
  · obtain ⟨l, x, rfl, hL, hO, q⟩ := h
    obtain ⟨a, b, rfl, hS, c, us, rfl, hC, hP⟩ := hL
    have hm := hO.many
    have hn := hO.most
    have hh := head_len hO
    have hl : us.length = l.2.length := hP.length.symm
    refine ⟨_, (pss_cons (ps_set (i := 1) S.nd rfl (by first | exact Or.inl rfl | exact Or.inr rfl) (pe_lst (pa_cons (pe_op (op_add_str) (pe_callTy call_str_int rfl T.str bt_str (pa_cons (pe_ix (xix_tup K) (pv 0) pe_int (fun _ _ => rfl)) pa_nil)) pe_str) pa_nil)))
      (pss_cons (ps_for PassesOwn.never rfl (xpi_tup K (pe_ix (xix_tup K) (pv 0) pe_int (fun _ _ => rfl))) (pg_name (i := 2) S.nd rfl (by first | exact Or.inl rfl | exact Or.inr rfl))
      (pss_cons (ps_expr (xpe_bm K PySem.F.plainAttrs_list PySem.F.slot_list_append PySem.F.type_list_append mt_append (pv 1) (pa_cons pe_str pa_nil)))
      (pss_one (ps_if (pt_cmpR (op_gt) (pe_callB (xlen_seq K) rfl T.len bt_len (pa_cons (pv 2) pa_nil)) pe_int (nomark _))
      (pss_one (ps_asg (xpe_join K pe_str (pe_lc (own := [("_law_point", 3)]) (g := gName 3) rfl S.nd (xpi_tup K (pv 2)) (blkOk_by (by kernel_rfl)) (fun _ _ _ _ _ => (pg_name (i := 3) S.nd rfl (by first | exact Or.inl rfl | exact Or.inr rfl))) (fun _ _ _ _ _ => pts_nil) (fun _ _ _ _ _ => (pe_callTy call_str_int rfl T.str bt_str (pa_cons (pv 3) pa_nil))))) (pg_sub (pv 1) (pe_un un_neg pe_int) set_list)))
      pss_nil))))
      (pss_one (ps_ret (xpe_join K pe_str (pv 1)))))), ?_⟩
    refine ⟨_, rfl, a, _, 0, _, rfl, rfl, hS, atI_nat (j := 0) rfl, (l.1 : Int), rfl, log_small (by omega), _, _, rfl, rfl, ?_, by show 1 ≤ sizeLine; decide, fun o no => ?_⟩
    · have z := append_len (natS l.1) (Str.ofString ":")
      have e : (natS l.1).length + (Str.ofString ":").length ≤ sizeLine := len_nat (by omega)
      exact e
    have eo := Ex.new no (o := .lst [.str (natS l.1 ++ Str.ofString ":")])
    refine ⟨_, rfl, a, _, 1, _, rfl, rfl, ex_t eo hS, atI_nat (j := 1) rfl, c, rfl, ⟨_, ex_t eo hC⟩, fr_tup (xs := us) (fun i σ H' => ∃ u, σ = [some (.ref a), some (.ref o), u, none] ∧ Ex H H' ∧ H' o = some (.lst (((natS l.1 ++ Str.ofString ":") :: (l.2.take i).map blkW).map V.str)))
      ⟨_, rfl, eo, upd_same⟩ (fun i σ H' _ ⟨_, _, e, _⟩ => ex_t e hC) ?_ ?_⟩
    · rintro i σ H' hi ⟨u, rfl, e, hw⟩
      obtain ⟨⟨d, hd, hdS⟩, hmem, hib⟩ := paired_at hP hi [] .non
      have hsm := lok_small hO _ hmem
      have hwl : (((natS l.1 ++ Str.ofString ":") :: (l.2.take i).map blkW).map V.str).length ≤ 70 := by
        rw [List.length_map, List.length_cons, List.length_map, List.length_take]
        omega
      refine ⟨_, rfl, .inl ⟨rfl, _, .inl (.inl hw)⟩, o, _, _, rfl, rfl, hw, sz_lt (by omega), ?_⟩
      generalize hws : ((natS l.1 ++ Str.ofString ":") :: (l.2.take i).map blkW).map V.str = ws at hw hwl ⊢
      have hstep := words_step (n := l.1) hib
      rw [hws] at hstep
      have eu : Ex H (upd H' o (.lst (ws ++ [.str (Str.ofString "-")]))) := Ex.mut e no
      have hdS2 : SqT K (upd H' o (.lst (ws ++ [.str (Str.ofString "-")]))) d (nv (l.2.getD i [])) := ex_t eu hdS
      refine ⟨_, rfl, d, _, by rw [hd], .inr hdS2, _, _, rfl, rfl, _, rfl, ite2 (fun hc => ?_) (fun hc => ?_)⟩
      · have hgt := of_decide_eq_true hc
        rw [nv_len] at hgt
        have hne : l.2.getD i [] ≠ [] := fun z => by
          rw [z] at hgt
          exact absurd hgt (by decide)
        refine ⟨⟨_, rfl⟩, _, rfl, d, by rw [hd], ⟨_, hdS2⟩, fun D hD => cl_tup hdS2 (fun _ => true) (fun k v _ => v = .str (natS ((l.2.getD i []).getD k 0))) hD (by rw [nv_len]; omega) (fun _ => rfl) (fun _ _ _ _ h _ => h) (fun k H2 _ _ Q q => q H2 (Ex.refl H2)) (fun k H2 acc hk _ e2 _ Q q => ?_) (fun H2 out e2 hD' hp => ?_)⟩
        · obtain ⟨p, _, hp, h4, h5⟩ := nv_getD hk
          refine ⟨_, rfl, (p : Int), by rw [h5], log_small (by have := hsm.2 p hp; omega), q _ H2 (Ex.refl H2) ?_⟩
          rw [h4]
          rfl
        · have eq := nats_paired hp
          subst eq
          have hw2 : H2 o = some (.lst (ws ++ [.str (Str.ofString "-")])) := e2 _ _ upd_same
          refine ⟨_, D, (l.2.getD i []).map natS, rfl, rfl, .inl (.inl (.inl hD')), ?_, _, rfl, 1, rfl, o, _, -1, ws.length, rfl, rfl, hw2, ?_, _, rfl, Ex.mut (eu.trans e2) no, ?_⟩
          · have z := nats_sum hsm.1 hsm.2
            have e : (Str.ofString ".").length = 1 := by decide
            rw [e]
            omega
          · exact ixN_last ws _
          · rw [set_last, hstep]
            unfold blkW
            rw [if_neg hne]
            exact upd_same
      · have hz : l.2.getD i [] = [] := by
          cases hq : l.2.getD i [] with
          | nil => rfl
          | cons p r =>
            exact absurd (decide_eq_true (by rw [hq, nv_len, List.length_cons]; omega)) hc
        refine ⟨_, rfl, eu, ?_⟩
        rw [hstep, hz, blk_nil]
        exact upd_same
    · rintro σ H' ⟨u, rfl, e, hw⟩
      rw [hl, List.take_length] at hw
      refine ⟨⟨_, rfl⟩, _, rfl, _, o, layW l, rfl, rfl, .inl (.inl (.inl hw)), ?_, q H' e⟩
      have := lay_sum hO
      have e : (Str.ofString " ").length = 1 := by decide
      rw [e]
      omega
/-! ### _law_bases_text(bases) -/
def sp__law_bases_text (K : PySem.W.Frag) : Sp := fun vs H Q _ => ∃ (bs : List (List Nat)) (x : V), vs = [x] ∧ LLs K H bs x ∧ bs.length ≤ 60 ∧ (∀ b ∈ bs, b.length ≤ 60 ∧ ∀ p ∈ b, p < 100) ∧ ∀ H', Ex H H' → Q (.str (basT bs)) H'
theorem sc__law_bases_text : FnScope ["_law_bases", "_law_words", "_law_point", "_law_base"] ["_law_bases"] (defScope sLBasesText) := ⟨rfl, rfl, rfl, by decide +kernel, rfl, by decide +kernel, by decide +kernel⟩
theorem ok__law_bases_text (F : At K mg "_law_bases_text" "_law_bases_text" sLBasesText) (T : Tx K w mg) : Cal P w K mg base CX0 1 "_law_bases_text" ["_law_bases"] (sp__law_bases_text K) := by
  have S := sc__law_bases_text
  refine F.cal S (fun _ _ _ _ _ _ us hl => match us, hl with | [_], _ => rfl) (fun vs H Q E h => ?_) (fun cdv f A outer s H vs Q E hr h => ?_)
  · obtain ⟨bs, x, rfl, _⟩ := h
    rfl
  · obtain ⟨bs, x, rfl, hL, hm, hsm, q⟩ := h
    obtain ⟨a, us, rfl, hS, hP⟩ := hL
    have hl : us.length = bs.length := hP.length.symm
    refine ⟨_, (pss_cons (ps_setLc (i := 1) (own := [("_law_base", 3)]) (g := gName 3) rfl S.nd rfl rfl (sw_true rfl rfl rfl (by decide +kernel)) (xpi_list K (pv 0)) (blkOk_by (by kernel_rfl)) (fun _ _ _ _ _ => (pg_name (i := 3) S.nd rfl (by first | exact Or.inl rfl | exact Or.inr rfl))) (fun _ _ _ _ _ => pts_nil) (fun _ _ _ _ _ => (pe_ifExp (pt_cmpR (op_eq) (pe_callB (xlen_seq K) rfl T.len bt_len (pa_cons (pv 3) pa_nil)) pe_int (nomark _)) pe_str (xpe_join K pe_str (pe_lc (own := [("_law_point", 2)]) (g := gName 2) rfl S.nd (xpi_list K (pv 3)) (blkOk_by (by kernel_rfl)) (fun _ _ _ _ _ => (pg_name (i := 2) S.nd rfl (by first | exact Or.inl rfl | exact Or.inr rfl))) (fun _ _ _ _ _ => pts_nil) (fun _ _ _ _ _ => (pe_callTy call_str_int rfl T.str bt_str (pa_cons (pv 2) pa_nil))))))))
      (pss_one (ps_ret (xpe_join K pe_str (pv 1))))), ?_⟩
    refine ⟨_, rfl, a, rfl, ⟨_, hS⟩, fun D hD => cl_list hS (fun _ => true) (fun i v _ => v = .str (blkW (bs.getD i []))) hD (by omega) (fun _ => rfl) (fun _ _ _ _ h _ => h) (fun i H2 _ _ Q q => q H2 (Ex.refl H2)) (fun i H2 acc hi _ e2 _ Q q => ?_) (fun H' out e1 hD' hp => ?_)⟩
    · obtain ⟨⟨d, hd, hdS⟩, hmem, hib⟩ := paired_at hP hi [] .non
      have hs2 := hsm _ hmem
      have hdS2 := ex_l e2 hdS
      refine ⟨_, rfl, d, _, by rw [hd], .inl hdS2, rfl, _, rfl, ite2 (fun hc => ?_) (fun hc => ?_)⟩
      · have e := V.int.inj (of_decide_eq_true hc)
        rw [nv_len] at e
        have hz : bs.getD i [] = [] := List.eq_nil_of_length_eq_zero (by omega)
        refine q _ H2 (Ex.refl H2) ?_
        rw [hz, blk_nil]
      · have hne : bs.getD i [] ≠ [] := fun z => hc (decide_eq_true (by rw [z]; rfl))
        refine ⟨⟨_, rfl⟩, _, rfl, d, by rw [hd], ⟨_, hdS2⟩, fun D2 hD2 => cl_list hdS2 (fun _ => true) (fun k v _ => v = .str (natS ((bs.getD i []).getD k 0))) hD2 (by rw [nv_len]; omega) (fun _ => rfl) (fun _ _ _ _ h _ => h) (fun k H2 _ _ Q q => q H2 (Ex.refl H2)) (fun k H3 acc hk _ e3 _ Q q => ?_) (fun H3 out e3 hD3 hp => ?_)⟩
        · obtain ⟨p, _, hp, h4, h5⟩ := nv_getD hk
          refine ⟨_, rfl, (p : Int), by rw [h5], log_small (by have := hs2.2 p hp; omega), q _ H3 (Ex.refl H3) ?_⟩
          rw [h4]
          rfl
        · have eq := nats_paired hp
          subst eq
          refine ⟨_, D2, (bs.getD i []).map natS, rfl, rfl, .inl (.inl (.inl hD3)), ?_, q _ H3 e3 ?_⟩
          · have z := nats_sum hs2.1 hs2.2
            have e : (Str.ofString ".").length = 1 := by decide
            rw [e]
            omega
          · unfold blkW
            rw [if_neg hne]
    · have eq : out = (bs.map blkW).map V.str := by
        rw [hl] at hp
        rw [paired_eq (paired_range (F := fun (b : List Nat) (v : V) => v = .str (blkW b)) hp), List.map_map]
        rfl
      subst eq
      refine ⟨⟨_, rfl⟩, _, rfl, _, D, bs.map blkW, rfl, rfl, .inl (.inl (.inl hD')), ?_, q H' e1⟩
      have := blks_sum hm hsm
      have e : (Str.ofString " ").length = 1 := by decide
      rw [e]
      omega
end
end EM
set_option Elab.async false
set_option linter.all false
set_option maxRecDepth 100000
set_option maxHeartbeats 2000000
namespace EM
open PySem PySem.Spec PyProof.Rows L2 Evl
section
variable {P : Program} {w : World} {K : PySem.W.Frag} {mg : Str → Option Value} {base : Heap}
/-! ### _law_developed(n, bases) -/
def sp__law_developed (K : PySem.W.Frag) : Sp := fun vs H Q _ => ∃ (n : Nat) (bs : List (List Nat)) (x : V), vs = [.int (n : Int), x] ∧ LLs K H bs x ∧ 1 ≤ n ∧ n ≤ 20 ∧ bs.length ≤ 3 ∧ (∀ b ∈ bs, Base n b) ∧ ∀ v H', Ex H H' → LY K H' (devF n bs) v → Q v H'
theorem sc__law_developed : FnScope ["_law_n", "_law_bases", "_law_found", "_law_base", "_law_point", "_law_turn"] ["_law_n", "_law_bases"] (defScope sLDeveloped) := ⟨rfl, rfl, rfl, by decide +kernel, rfl, by decide +kernel, by decide +kernel⟩
theorem ok__law_developed (F : At K mg "_law_developed" "_law_developed" sLDeveloped) (T : Tx K w mg) : Cal P w K mg base CX0 1 "_law_developed" ["_law_n", "_law_bases"] (sp__law_developed K) := by
  have S := sc__law_developed
  refine F.cal S (fun _ _ _ _ _ _ us hl => match us, hl with | [_, _], _ => rfl) (fun vs H Q E h => ?_) (fun cdv f A outer s H vs Q E hr h => ?_)
  · obtain ⟨n, bs, x, rfl, _⟩ := h
    rfl
  · obtain ⟨n, bs, x, rfl, hL, h1, h2, h3, hB, q⟩ := h
    obtain ⟨a, us, rfl, hS, hP⟩ := hL
    have hl : us.length = bs.length := hP.length.symm
    refine ⟨_, (pss_cons (ps_set (i := 2) S.nd rfl (by first | exact Or.inl rfl | exact Or.inr rfl) (pe_lst pa_nil))
      (pss_cons (ps_for PassesOwn.never rfl (xpi_list K (pv 1)) (pg_name (i := 3) S.nd rfl (by first | exact Or.inl rfl | exact Or.inr rfl))
      (pss_one (ps_expr (xpe_bm K PySem.F.plainAttrs_list PySem.F.slot_list_extend PySem.F.type_list_extend mt_extend (pv 2) (pa_cons (pe_lc (own := [("_law_turn", 5)]) (g := gName 5) rfl S.nd (pi_range1 rfl T.range (pa_cons (pv 0) pa_nil)) (blkOk_by (by kernel_rfl)) (fun _ _ _ _ _ => (pg_name (i := 5) S.nd rfl (by first | exact Or.inl rfl | exact Or.inr rfl))) (fun _ _ _ _ _ => pts_nil) (fun _ _ _ _ _ => (pe_callTy (xtuple_of K) rfl T.tuple bt_tuple (pa_cons (pe_callB (xsortedI K) rfl T.sorted bt_sorted (pa_cons (pe_lc (own := [("_law_point", 4)]) (g := gName 4) rfl S.nd (xpi_list K (pv 3)) (blkOk_by (by kernel_rfl)) (fun _ _ _ _ _ => (pg_name (i := 4) S.nd rfl (by first | exact Or.inl rfl | exact Or.inr rfl))) (fun _ _ _ _ _ => pts_nil) (fun _ _ _ _ _ => (pe_op (op_mod) (pe_op (op_add) (pv 4) (pv 5)) (pv 0)))) pa_nil)) pa_nil)))) pa_nil)))))
      (pss_one (ps_ret (pe_tup (pa_cons (pv 0) (pa_cons (pe_callTy (xtuple_of K) rfl T.tuple bt_tuple (pa_cons (pv 2) pa_nil)) pa_nil))))))), ?_⟩
    refine ⟨Nat.zero_le _, fun l hl0 => ?_⟩
    have hS1 := ex_l (Ex.new hl0 (o := .lst [])) hS
    have f1 : ∀ m : Nat, m ≤ bs.length → ((bs.take m).flatMap (devN n)).length ≤ 60 := fun m hm => by
      have q := (dev_ok h1 h2 (by rw [List.length_take]; omega) (bs := bs.take m) fun b hb => hB b (List.mem_of_mem_take hb)).many
      exact q
    refine ⟨_, rfl, a, rfl, ⟨_, hS1⟩, fr_list (xs := us) (fun i σ H' => ∃ y, σ = [some (.int n), some (.ref a), some (.ref l), y, none, none] ∧ Ex H H' ∧ ∃ vs, H' l = some (.lst vs) ∧ Paired (TI K H') ((bs.take i).flatMap (devN n)) vs)
      ⟨_, rfl, Ex.new hl0, [], upd_same, .nil⟩ (fun i σ H' _ ⟨_, _, e, _⟩ => ex_l e hS) ?_ ?_⟩
    · rintro i σ H' hi ⟨y, rfl, e, vs, hv, hp⟩
      obtain ⟨⟨c, hc, hcS⟩, hm, hib⟩ := paired_at hP hi [] .non
      have hbl := len_of_below (hB _ hm).nd (hB _ hm).bel
      refine ⟨_, rfl, .inl ⟨rfl, _, .inl (.inl hv)⟩, _, rfl, (n : Int), rfl, by omega, by omega, fun D hD => cl_range (n := n) (fun _ => true) (fun i' v H' => TI K H' (turnF n i' (bs.getD i [])) v) hD (by omega) (fun _ => rfl) (fun _ _ _ _ h k => h.tk k.tk) (fun i H2 _ _ Q q => q H2 (Ex.refl H2)) (fun t H2 acc hi _ e2 _ Q q => ?_) (fun H2 out e2 hD' hq => ?_)⟩
      · have hcS2 := ex_l (e.trans e2) hcS
        refine ⟨_, rfl, c, by rw [hc], ⟨_, hcS2⟩, fun D2 hD2 => cl_list hcS2 (fun _ => true) (fun k v _ => v = .int ((((bs.getD i []).getD k 0 + t) % n : Nat) : Int)) hD2 (by rw [nv_len]; omega) (fun _ => rfl) (fun _ _ _ _ h _ => h) (fun i H3 _ _ Q q => q H3 (Ex.refl H3)) (fun k H3 acc hi _ e3 _ Q q => ?_) (fun H3 out e3 hD3 hp => ?_)⟩
        · obtain ⟨p, _, _, h4, h5⟩ := nv_getD hi
          refine ⟨_, rfl, _, rfl, (p : Int), (t : Int), by rw [h5], rfl, _, rfl, _, _, rfl, rfl, (by show (0 : Int) < _; omega), q _ H3 (Ex.refl H3) ?_⟩
          rw [h4]
          exact congrArg V.int (emodN p t n)
        · have eo := out_turn hp
          subst eo
          refine ⟨D2, _, rfl, by rw [← nv_ints]; exact .inl (.inl hD3), fun ns p hp hs hn => ?_⟩
          refine ⟨p, _, rfl, .inl ⟨.inl (.inl upd_same), fun t' ht => ?_⟩⟩
          refine q _ _ ((e3.trans (Ex.new hn)).trans (Ex.new ht)) ⟨t', rfl, ?_⟩
          have e4 := sort_ints hp hs
          unfold turnF
          rw [nv_ints, ← e4]
          exact .inl (.inl upd_same)
      · have hv2 := e2 _ _ hv
        have nl : D ≠ l := fun z => by
          rw [z, hv] at hD
          cases hD
        have hq2 : Paired (TI K H2) (devN n (bs.getD i [])) out := by
          rw [kept_all] at hq
          exact paired_mapl hq
        have et : (bs.take (i + 1)).flatMap (devN n) = (bs.take i).flatMap (devN n) ++ devN n (bs.getD i []) := by
          rw [List.take_add_one, List.getElem?_eq_getElem hib, List.flatMap_append]
          simp [List.getD_eq_getElem?_getD, hib]
        have l1 := hp.length
        have l2 := hq2.length
        have l3 := f1 (i + 1) (by omega)
        rw [et, List.length_append] at l3
        refine ⟨l, D, vs, out, rfl, rfl, hv2, hD', len_nat (by omega), _, rfl, Ex.mut (e.trans e2) hl0, vs ++ out, upd_same, ?_⟩
        rw [et]
        exact paired_append (paired_ti (paired_ti hp (tk_of e2)) (tk_lst hv2)) (paired_ti hq2 (tk_lst hv2))
    · rintro σ H' ⟨y, rfl, e, vs, hv, hp⟩
      rw [hl, List.take_length] at hp
      refine ⟨_, rfl, _, rfl, l, vs, rfl, .inl ⟨.inl (.inl hv), fun t ht => ⟨by show 2 ≤ sizeLine; decide, fun p hp' => ?_⟩⟩⟩
      have e3 : Ex H' (upd H' t (.tup vs)) := Ex.new ht
      have e4 := Ex.new hp' (o := .tup [.int n, .ref t])
      refine q _ _ ((e.trans e3).trans e4) ⟨p, _, rfl, .inl (.inl upd_same), t, vs, rfl, ex_t e4 (.inl (.inl upd_same)), paired_ti hp (tk_of (e3.trans e4))⟩
/-! ### _law_kept(points, blocks) -/
def sp__law_kept (K : PySem.W.Frag) : Sp := fun vs H Q _ => ∃ (ps : List Nat) (bs : List (List Nat)) (x y : V), vs = [x, y] ∧ LI K H ps x ∧ LB K H bs y ∧ ps.Nodup ∧ ps.length ≤ 60 ∧ bs.length ≤ 60 ∧ (∀ b ∈ bs, b.length ≤ 60) ∧ ∀ v H', Ex H H' → LY K H' (keptF ps bs) v → Q v H'
theorem idx_first : ∀ {ps : List Nat} {p m y : Nat}, m < ps.idxOf p → ps[m]? = some y → y ≠ p
  | [], p, m, y, h, e => by simp at e
  | q :: ps, p, 0, y, h, e => by
    have e2 : q = y := by simpa using e
    subst e2
    intro z
    subst z
    rw [List.idxOf_cons_self] at h
    omega
  | q :: ps, p, m + 1, y, h, e => by
    by_cases hq : q = p
    · subst hq
      rw [List.idxOf_cons_self] at h
      omega
    · rw [idx_ne hq] at h
      exact idx_first (ps := ps) (p := p) (m := m) (by omega) (by simpa using e)
theorem sc__law_kept : FnScope ["_law_points", "_law_blocks", "_law_kept_here", "_law_block", "_law_point"] ["_law_points", "_law_blocks"] (defScope sLKept) := ⟨rfl, rfl, rfl, by decide +kernel, rfl, by decide +kernel, by decide +kernel⟩
theorem ok__law_kept (F : At K mg "_law_kept" "_law_kept" sLKept) (T : Tx K w mg) : Cal P w K mg base CX0 1 "_law_kept" ["_law_points", "_law_blocks"] (sp__law_kept K) := by
  have S := sc__law_kept
  refine F.cal S (fun _ _ _ _ _ _ us hl => match us, hl with | [_, _], _ => rfl) (fun vs H Q E h => ?_) (fun cdv f A outer s H vs Q E hr h => ?_)
  · obtain ⟨ps, bs, x, y, rfl, _⟩ := h
    rfl
  · obtain ⟨ps, bs, x, y, rfl, hX, hY, hn, hpl, hbl, hb, q⟩ := h
    obtain ⟨a, rfl, hA⟩ := hX
    obtain ⟨b, us, rfl, hB, hP⟩ := hY
    have hl : us.length = bs.length := hP.length.symm
    refine ⟨_, (pss_cons (ps_set (i := 2) S.nd rfl (by first | exact Or.inl rfl | exact Or.inr rfl) (pe_lst pa_nil))
      (pss_cons (ps_for PassesOwn.never rfl (xpi_list K (pv 1)) (pg_name (i := 3) S.nd rfl (by first | exact Or.inl rfl | exact Or.inr rfl))
      (pss_one (ps_expr (xpe_bm K PySem.F.plainAttrs_list PySem.F.slot_list_append PySem.F.type_list_append mt_append (pv 2) (pa_cons (pe_callTy (xtuple_of K) rfl T.tuple bt_tuple (pa_cons (pe_lc (own := [("_law_point", 4)]) (g := gName 4) rfl S.nd (xpi_tup K (pv 3)) (blkOk_by (by kernel_rfl)) (fun _ _ _ _ _ => (pg_name (i := 4) S.nd rfl (by first | exact Or.inl rfl | exact Or.inr rfl))) (fun _ _ _ _ _ => (pts_one (pt_cmpR (xop_in K) (pv 4) (pv 0) rfl))) (fun _ _ _ _ _ => (xpe_bm K PySem.F.plainAttrs_list PySem.F.slot_list_index PySem.F.type_list_index (xindex K) (pv 0) (pa_cons (pv 4) pa_nil)))) pa_nil)) pa_nil)))))
      (pss_one (ps_ret (pe_tup (pa_cons (pe_callB (xlen_seq K) rfl T.len bt_len (pa_cons (pv 0) pa_nil)) (pa_cons (pe_callTy (xtuple_of K) rfl T.tuple bt_tuple (pa_cons (pv 2) pa_nil)) pa_nil))))))), ?_⟩
    refine ⟨Nat.zero_le _, fun l hl0 => ?_⟩
    have el := Ex.new hl0 (o := .lst [])
    refine ⟨_, rfl, b, rfl, ⟨_, ex_l el hB⟩, fr_list (xs := us) (fun i σ H' => ∃ y, σ = [some (.ref a), some (.ref b), some (.ref l), y, none] ∧ Ex H H' ∧ ∃ vs, H' l = some (.lst vs) ∧ Paired (TI K H') ((bs.take i).map fun b => (b.filter fun p => ps.contains p).map fun p => ps.idxOf p) vs)
      ⟨_, rfl, el, [], upd_same, .nil⟩ (fun i σ H' _ ⟨_, _, e, _⟩ => ex_l e hB) ?_ ?_⟩
    · rintro i σ H' hi ⟨y, rfl, e, vs, hv, hp⟩
      obtain ⟨⟨c, hc, hcS⟩, hm, hib⟩ := paired_at hP hi [] .non
      have hlb := hb _ hm
      have hC := ex_t e hcS
      have hA1 := ex_l e hA
      refine ⟨_, rfl, .inl ⟨rfl, _, .inl (.inl hv)⟩, _, rfl, c, by rw [hc], ⟨_, hC⟩, fun D hD => cl_tup hC (fun k => ps.contains ((bs.getD i []).getD k 0)) (fun k v _ => v = .int ((ps.idxOf ((bs.getD i []).getD k 0) : Nat) : Int)) hD (by rw [nv_len]; omega) (fun _ => rfl) (fun _ _ _ _ h _ => h) (fun k H3 hk3 e3 Q q => ?_) (fun k H3 acc hk3 hf e3 _ Q q => ?_) (fun H3 out e3 hD3 hq => ?_)⟩
      · obtain ⟨p, _, _, h4, h5⟩ := nv_getD hk3
        rw [h4] at q
        refine ⟨_, rfl, _, rfl, a, nv ps, rfl, .inl (ex_l e3 hA1), by rw [h5]; rfl, nv_flat _, _, rfl, ?_⟩
        rw [if_neg Bool.false_ne_true, h5, inV_nv]
        exact q H3 (Ex.refl H3)
      · obtain ⟨p, _, _, h4, h5⟩ := nv_getD hk3
        rw [h4] at hf q
        have hmem : p ∈ ps := by simpa using hf
        have hlt : ps.idxOf p < ps.length := List.idxOf_lt_length_iff.mpr hmem
        have hat : ps[ps.idxOf p]? = some p := by
          rw [List.getElem?_eq_getElem hlt]
          exact congrArg some (List.getElem_idxOf hlt)
        refine ⟨_, rfl, .inl ⟨rfl, _, ex_l e3 hA1⟩, _, rfl, a, nv ps, .int (p : Int), ps.idxOf p, .int (p : Int), rfl, by rw [h5], ex_l e3 hA1, rfl, nv_flat _, nv_at hat, ?_, fun m z' hm' hz => ?_, q _ H3 (Ex.refl H3) rfl⟩
        · show ((p : Int) == (p : Int)) = true
          exact beq_self_eq_true _
        · obtain ⟨y, hy, rfl⟩ := nv_get hz
          have hne := idx_first hm' hy
          show ((y : Int) == (p : Int)) = false
          exact beq_eq_false_iff_ne.mpr fun z => hne (by omega)
      · have eq : out = nv (((bs.getD i []).filter fun p => ps.contains p).map fun p => ps.idxOf p) := by
          rw [nv_len] at hq
          have q2 := paired_kept (F := fun (p : Nat) (v : V) => v = .int ((ps.idxOf p : Nat) : Int)) (p := fun p => ps.contains p) hq
          rw [paired_eq q2]
          unfold nv
          rw [List.map_map]
          rfl
        subst eq
        refine ⟨D, _, rfl, .inl ⟨.inl (.inl hD3), fun t ht => ?_⟩⟩
        have hv3 := e3 _ _ hv
        have et := Ex.new ht (o := .tup (nv (((bs.getD i []).filter fun p => ps.contains p).map fun p => ps.idxOf p)))
        have hv4 := et _ _ hv3
        have l1 := hp.length
        rw [List.length_map, List.length_take] at l1
        refine ⟨l, vs, _, rfl, rfl, hv4, sz_lt (by omega), _, rfl, Ex.mut ((e.trans e3).trans et) hl0, _, upd_same, ?_⟩
        have e5 : bs.take (i + 1) = bs.take i ++ [bs.getD i []] := by
          rw [List.take_add_one, List.getElem?_eq_getElem hib]
          simp [List.getD_eq_getElem?_getD, hib]
        rw [e5, List.map_append]
        exact paired_append (paired_ti (paired_ti hp (tk_of (e3.trans et))) (tk_lst hv4)) (.cons (TI.tk ⟨t, rfl, .inl (.inl upd_same)⟩ (tk_lst hv4)) .nil)
    · rintro σ H' ⟨y, rfl, e, vs, hv, hp⟩
      rw [hl, List.take_length] at hp
      have hA1 := ex_l e hA
      refine ⟨_, rfl, a, nv ps, rfl, .inl hA1, _, rfl, l, vs, rfl, .inl ⟨.inl (.inl hv), fun t ht => ⟨by show 2 ≤ sizeLine; decide, fun p hp' => ?_⟩⟩⟩
      have e3 : Ex H' (upd H' t (.tup vs)) := Ex.new ht
      have e4 := Ex.new hp' (o := .tup [.int ((nv ps).length : Int), .ref t])
      refine q _ _ ((e.trans e3).trans e4) ⟨p, _, rfl, ?_, t, vs, rfl, ex_t e4 (.inl (.inl upd_same)), paired_ti hp (tk_of (e3.trans e4))⟩
      show SqT K _ p [.int ((ps.length : Nat) : Int), .ref t]
      rw [← nv_len ps]
      exact .inl (.inl upd_same)
end
end EM
set_option Elab.async false
set_option linter.all false
set_option maxRecDepth 100000
set_option maxHeartbeats 2000000
namespace EM
open PySem PySem.Spec PyProof.Rows L2 Evl
section
variable {P : Program} {w : World} {K : PySem.W.Frag} {mg : Str → Option Value} {base : Heap}
/-! ### _law_made(word, layout, point) -/
inductive Md
  | comp
  | dual
  | pat
  | poff
def Md.word : Md → Str
  | .comp => "complement"
  | .dual => "dual"
  | .pat => "at"
  | .poff => "off"
def Md.fn : Md → Lay → Nat → Lay
  | .comp, l, _ => compF l
  | .dual, l, _ => dualF l
  | .pat, l, p => atF l p
  | .poff, l, p => offF l p
def sp__law_made (K : PySem.W.Frag) : Sp := fun vs H Q _ => ∃ (md : Md) (l : Lay) (p : Nat) (x : V), vs = [.str md.word, x, .int (p : Int)] ∧ LY K H l x ∧ LOk l ∧ p < l.1 ∧ ∀ v H', Ex H H' → LY K H' (md.fn l p) v → Q v H'
theorem ne_str {a b : Str} (h : ¬ a = b) : decide (V.str a = V.str b) = false := decide_eq_false fun z => h (V.str.inj z)
theorem ne_bne (o p : Nat) : (o != p) = (!decide (V.int (o : Int) = V.int (p : Int))) := by
  by_cases z : o = p
  · subst z
    simp
  · have z2 : ¬ V.int (o : Int) = V.int (p : Int) := fun y => z (by have := V.int.inj y; omega)
    rw [decide_eq_false z2]
    simp [bne, z]
theorem sc__law_made : FnScope ["_law_word", "_law_layout", "_law_point", "_law_many", "_law_blocks", "_law_p", "_law_block", "_law_own", "_law_k", "_law_others", "_law_other"] ["_law_word", "_law_layout", "_law_point"] (defScope sLMade) := ⟨rfl, rfl, rfl, by decide +kernel, rfl, by decide +kernel, by decide +kernel⟩
theorem ok__law_made (F : At K mg "_law_made" "_law_made" sLMade) (T : Tx K w mg) (G__law_kept : Cal P w K mg base CX0 1 "_law_kept" ["_law_points", "_law_blocks"] (sp__law_kept K)) : Cal P w K mg base CX0 2 "_law_made" ["_law_word", "_law_layout", "_law_point"] (sp__law_made K) := by
  have S := sc__law_made
  refine F.cal S (fun _ _ _ _ _ _ us hl => match us, hl with | [_, _, _], _ => rfl) (fun vs H Q E h => ?_) (fun cdv f A outer s H vs Q E hr h => ?_)
  · obtain ⟨md, l, p, x, rfl, _⟩ := h
    rfl
  · obtain ⟨md, l, p, x, rfl, hL, hO, hp, q⟩ := h
    obtain ⟨a, b, rfl, hS, c, us, rfl, hC, hP⟩ := hL
    have hm := hO.many
    have hn := hO.most
    have hl : us.length = l.2.length := hP.length.symm
    have hul : ((us.length : Nat) : Int) = (l.2.length : Int) := by rw [hl]
    refine ⟨_, (pss_cons (ps_asg (pv 1) (pg_tup rfl (pgs_cons (pg_name (i := 3) S.nd rfl (by first | exact Or.inl rfl | exact Or.inr rfl)) (pgs_cons (pg_name (i := 4) S.nd rfl (by first | exact Or.inl rfl | exact Or.inr rfl)) pgs_nil))))
      (pss_cons (ps_if (pt_cmpR (op_eq) (pv 0) pe_str (nomark _))
      (pss_one (ps_ret (pe_tup (pa_cons (pv 3) (pa_cons (pe_callTy (xtuple_of K) rfl T.tuple bt_tuple (pa_cons (pe_lc (own := [("_law_block", 6)]) (g := gName 6) rfl S.nd (xpi_tup K (pv 4)) (blkOk_by (by kernel_rfl)) (fun _ _ _ _ _ => (pg_name (i := 6) S.nd rfl (by first | exact Or.inl rfl | exact Or.inr rfl))) (fun _ _ _ _ _ => pts_nil) (fun _ _ _ _ _ => (pe_callTy (xtuple_of K) rfl T.tuple bt_tuple (pa_cons (pe_lc (own := [("_law_p", 5)]) (g := gName 5) rfl S.nd (pi_range1 rfl T.range (pa_cons (pv 3) pa_nil)) (blkOk_by (by kernel_rfl)) (fun _ _ _ _ _ => (pg_name (i := 5) S.nd rfl (by first | exact Or.inl rfl | exact Or.inr rfl))) (fun _ _ _ _ _ => (pts_one (pt_cmpR (xop_notIn K) (pv 5) (pv 6) rfl))) (fun _ _ _ _ _ => (pv 5))) pa_nil)))) pa_nil)) pa_nil)))))
      pss_nil)
      (pss_cons (ps_if (pt_cmpR (op_eq) (pv 0) pe_str (nomark _))
      (pss_cons (ps_setLc (i := 7) (own := [("_law_p", 5)]) (g := gName 5) rfl S.nd rfl rfl (sw_true rfl rfl rfl (by decide +kernel)) (pi_range1 rfl T.range (pa_cons (pv 3) pa_nil)) (blkOk_by (by kernel_rfl)) (fun _ _ _ _ _ => (pg_name (i := 5) S.nd rfl (by first | exact Or.inl rfl | exact Or.inr rfl))) (fun _ _ _ _ _ => pts_nil) (fun _ _ _ _ _ => (pe_callTy (xtuple_of K) rfl T.tuple bt_tuple (pa_cons (pe_lc (own := [("_law_k", 8)]) (g := gName 8) rfl S.nd (pi_range1 rfl T.range (pa_cons (pe_callB (xlen_seq K) rfl T.len bt_len (pa_cons (pv 4) pa_nil)) pa_nil)) (blkOk_by (by kernel_rfl)) (fun _ _ _ _ _ => (pg_name (i := 8) S.nd rfl (by first | exact Or.inl rfl | exact Or.inr rfl))) (fun _ _ _ _ _ => (pts_one (pt_cmpR (xop_in K) (pv 5) (pe_ix (xix_tup K) (pv 4) (pv 8) (fun _ _ => rfl)) rfl))) (fun _ _ _ _ _ => (pv 8))) pa_nil))))
      (pss_one (ps_ret (pe_tup (pa_cons (pe_callB (xlen_seq K) rfl T.len bt_len (pa_cons (pv 4) pa_nil)) (pa_cons (pe_callTy (xtuple_of K) rfl T.tuple bt_tuple (pa_cons (pv 7) pa_nil)) pa_nil))))))
      pss_nil)
      (pss_cons (ps_setLc (i := 9) (own := [("_law_other", 10)]) (g := gName 10) rfl S.nd rfl rfl (sw_true rfl rfl rfl (by decide +kernel)) (pi_range1 rfl T.range (pa_cons (pv 3) pa_nil)) (blkOk_by (by kernel_rfl)) (fun _ _ _ _ _ => (pg_name (i := 10) S.nd rfl (by first | exact Or.inl rfl | exact Or.inr rfl))) (fun _ _ _ _ _ => (pts_one (pt_cmpR (op_ne) (pv 10) (pv 2) (nomark _)))) (fun _ _ _ _ _ => (pv 10)))
      (pss_cons (ps_if (pt_cmpR (op_eq) (pv 0) pe_str (nomark _))
      (pss_one (ps_ret (pe_cc G__law_kept (hr.mono (by decide)) (pa_cons (pv 9) (pa_cons (pe_lc (own := [("_law_block", 6)]) (g := gName 6) rfl S.nd (xpi_tup K (pv 4)) (blkOk_by (by kernel_rfl)) (fun _ _ _ _ _ => (pg_name (i := 6) S.nd rfl (by first | exact Or.inl rfl | exact Or.inr rfl))) (fun _ _ _ _ _ => (pts_one (pt_cmpR (xop_in K) (pv 2) (pv 6) rfl))) (fun _ _ _ _ _ => (pv 6))) pa_nil)))))
      pss_nil)
      (pss_one (ps_ret (pe_cc G__law_kept (hr.mono (by decide)) (pa_cons (pv 9) (pa_cons (pe_lc (own := [("_law_block", 6)]) (g := gName 6) rfl S.nd (xpi_tup K (pv 4)) (blkOk_by (by kernel_rfl)) (fun _ _ _ _ _ => (pg_name (i := 6) S.nd rfl (by first | exact Or.inl rfl | exact Or.inr rfl))) (fun _ _ _ _ _ => (pts_one (pt_cmpR (xop_notIn K) (pv 2) (pv 6) rfl))) (fun _ _ _ _ _ => (pv 6))) pa_nil)))))))))), ?_⟩
    refine ⟨_, rfl, a, _, rfl, hS, rfl, _, _, rfl, _, _, rfl, rfl, ?_⟩
    cases md with
    | comp =>
      refine ⟨_, rfl, rfl, _, rfl, ifT (decide_eq_true rfl) ?_⟩
      refine ⟨_, rfl, _, rfl, c, rfl, ⟨_, hC⟩, fun D hD => cl_tup hC (fun _ => true) (fun i v H' => TI K H' ((List.range l.1).filter fun p => !(l.2.getD i []).contains p) v) hD (by omega) (fun _ => rfl) (fun _ _ _ _ h k => h.tk k.tk) (fun i H2 _ _ Q q => q H2 (Ex.refl H2)) (fun i H2 acc hi _ e2 _ Q q => ?_) (fun H2 out e2 hD2 hq => ?_)⟩
      · obtain ⟨⟨d, hd, hdS⟩, hmem, hib⟩ := paired_at hP hi [] .non
        refine ⟨_, rfl, (l.1 : Int), rfl, by omega, by omega, fun D2 hD2 => cl_range (n := l.1) (fun p => !(l.2.getD i []).contains p) (fun i v _ => v = .int ((i : Nat) : Int)) hD2 (by omega) (fun _ => rfl) (fun _ _ _ _ h _ => h) (fun k H3 hk e3 Q q => ?_) (fun k H3 _ _ _ e3 _ Q q => ⟨_, rfl, q _ H3 (Ex.refl H3) rfl⟩) (fun H3 out e3 hD3 hq => ?_)⟩
        · refine ⟨_, rfl, _, rfl, d, nv (l.2.getD i []), by rw [hd], .inr (ex_t (e2.trans e3) hdS), rfl, nv_flat _, _, rfl, ?_⟩
          rw [if_pos rfl, inV_nv]
          exact q H3 (Ex.refl H3)
        · refine ⟨D2, out, rfl, .inl ⟨.inl (.inl hD3), fun t ht => q _ _ (e3.trans (Ex.new ht)) ⟨t, rfl, ?_⟩⟩⟩
          rw [show out = nv ((List.range l.1).filter fun p => !(l.2.getD i []).contains p) from paired_eq hq]
          exact .inl (.inl upd_same)
      · rw [hl] at hq
        have hq2 : Paired (TI K H2) (compF l).2 out := paired_mapl (paired_range (F := fun (b : List Nat) (v : V) => TI K H2 ((List.range l.1).filter fun p => !b.contains p) v) hq)
        refine ⟨D, out, rfl, .inl ⟨.inl (.inl hD2), fun t ht => ⟨by show 2 ≤ sizeLine; decide, fun p' hp' => ?_⟩⟩⟩
        have e3 := Ex.new ht (o := .tup out)
        have e4 := Ex.new hp' (o := .tup [.int (l.1 : Int), .ref t])
        exact q _ _ ((e2.trans e3).trans e4) ⟨p', _, rfl, .inl (.inl upd_same), t, out, rfl, ex_t e4 (.inl (.inl upd_same)), paired_ti hq2 (tk_of (e3.trans e4))⟩
    | dual =>
      refine ⟨_, rfl, rfl, _, rfl, ifF (ne_str (by decide +kernel)) ⟨_, rfl, rfl, _, rfl, ifT (decide_eq_true rfl) ?_⟩⟩
      refine ⟨_, rfl, (l.1 : Int), rfl, by omega, by omega, fun D hD => cl_range (n := l.1) (fun _ => true) (fun p v H' => TI K H' ((List.range l.2.length).filter fun k => (l.2.getD k []).contains p) v) hD (by omega) (fun _ => rfl) (fun _ _ _ _ h k => h.tk k.tk) (fun i H2 _ _ Q q => q H2 (Ex.refl H2)) (fun i H2 acc hi _ e2 _ Q q => ?_) (fun H2 out e2 hD2 hq => ?_)⟩
      · have hC2 := ex_t e2 hC
        refine ⟨_, rfl, c, us, rfl, .inr hC2, (us.length : Int), rfl, by omega, by omega, fun D2 hD2 => cl_range (n := us.length) (fun k => (l.2.getD k []).contains i) (fun k v _ => v = .int ((k : Nat) : Int)) hD2 (by omega) (fun _ => rfl) (fun _ _ _ _ h _ => h) (fun k H3 hk e3 Q q => ?_) (fun k H3 _ _ _ e3 _ Q q => ⟨_, rfl, q _ H3 (Ex.refl H3) rfl⟩) (fun H3 out e3 hD3 hq => ?_)⟩
        · obtain ⟨⟨d, hd, hdS⟩, hmem, hib⟩ := paired_at hP hk [] .non
          have hat : us[k]? = some (us.getD k .non) := by simp [List.getD_eq_getElem?_getD, hk]
          refine ⟨_, rfl, _, rfl, _, rfl, c, us, (k : Int), _, rfl, rfl, ex_t e3 hC2, atI_ge hat, d, nv (l.2.getD k []), by rw [hd], .inr (ex_t (e2.trans e3) hdS), rfl, nv_flat _, _, rfl, ?_⟩
          rw [if_neg Bool.false_ne_true, inV_nv]
          exact q H3 (Ex.refl H3)
        · refine ⟨D2, out, rfl, .inl ⟨.inl (.inl hD3), fun t ht => q _ _ (e3.trans (Ex.new ht)) ⟨t, rfl, ?_⟩⟩⟩
          rw [show out = nv ((List.range us.length).filter fun k => (l.2.getD k []).contains i) from paired_eq hq, hl]
          exact .inl (.inl upd_same)
      · rw [kept_all] at hq
        have hq2 : Paired (TI K H2) (dualF l).2 out := paired_mapl hq
        refine ⟨_, rfl, c, us, rfl, .inr (ex_t e2 hC), _, rfl, D, out, rfl, .inl ⟨.inl (.inl hD2), fun t ht => ⟨by show 2 ≤ sizeLine; decide, fun p' hp' => ?_⟩⟩⟩
        have e3 := Ex.new ht (o := .tup out)
        have e4 := Ex.new hp' (o := .tup [.int (us.length : Int), .ref t])
        refine q _ _ ((e2.trans e3).trans e4) ⟨p', .ref t, rfl, ?_, t, out, rfl, ex_t e4 (.inl (.inl upd_same)), paired_ti hq2 (tk_of (e3.trans e4))⟩
        show SqT K _ p' [.int ((l.2.length : Nat) : Int), .ref t]
        rw [← hl]
        exact .inl (.inl upd_same)
    | pat =>
      refine ⟨_, rfl, rfl, _, rfl, ifF (ne_str (by decide +kernel)) ⟨_, rfl, rfl, _, rfl, ifF (ne_str (by decide +kernel)) ?_⟩⟩
      refine ⟨_, rfl, (l.1 : Int), rfl, by omega, by omega, fun D hD => cl_range (n := l.1) (fun o => o != p) (fun i v _ => v = .int ((i : Nat) : Int)) hD (by omega) (fun _ => rfl) (fun _ _ _ _ h _ => h) (fun o H3 _ e3 Q q => ⟨_, rfl, _, rfl, rfl, _, rfl, ?_⟩) (fun k H3 _ _ _ e3 _ Q q => ⟨_, rfl, q _ H3 (Ex.refl H3) rfl⟩) (fun H3 out e3 hD3 hq => ?_)⟩
      · exact ne_bne o p ▸ q H3 (Ex.refl H3)
      · have ho : out = nv (restF l.1 p) := paired_eq hq
        subst ho
        refine ⟨_, rfl, rfl, _, rfl, ifT (decide_eq_true rfl) ?_⟩
        have hC3 := ex_t e3 hC
        refine ⟨_, rfl, _, rfl, c, rfl, ⟨_, hC3⟩, fun D2 hD2 => cl_tup hC3 (fun i => (l.2.getD i []).contains p) (fun i v H' => TI K H' (l.2.getD i []) v) hD2 (by omega) (fun _ => rfl) (fun _ _ _ _ h k => h.tk k.tk) (fun i H4 hi e4 Q q => ?_) (fun i H4 acc hi _ e4 _ Q q => ?_) (fun H4 out e4 hD4 hq => ?_)⟩
        · obtain ⟨⟨d, hd, hdS⟩, _, _⟩ := paired_at hP hi [] .non
          refine ⟨_, rfl, _, rfl, d, nv (l.2.getD i []), by rw [hd], .inr (ex_t (e3.trans e4) hdS), rfl, nv_flat _, _, rfl, ?_⟩
          rw [if_neg Bool.false_ne_true, inV_nv]
          exact q H4 (Ex.refl H4)
        · exact ⟨_, rfl, q _ H4 (Ex.refl H4) (TI.tk (paired_at hP hi [] .non).1 (tk_of (e3.trans e4)))⟩
        · rw [hl] at hq
          have hq2 := paired_kept (F := TI K H4) (p := fun b => b.contains p) hq
          have hrl := rest_len hp
          exact ⟨restF l.1 p, l.2.filter fun b => b.contains p, .ref D, .ref D2, rfl, ⟨D, rfl, ex_l e4 (.inl (.inl hD3))⟩, ⟨D2, out, rfl, .inl (.inl hD4), hq2⟩, (rest_asc _ _).nodup, by omega, Nat.le_trans (List.length_filter_le _ _) hm, fun b hb => Nat.le_trans (hO.blk b (List.mem_filter.mp hb).1).len hO.most, fun v2 H5 e5 hv2 => q _ _ ((e3.trans e4).trans e5) hv2⟩
    | poff =>
      refine ⟨_, rfl, rfl, _, rfl, ifF (ne_str (by decide +kernel)) ⟨_, rfl, rfl, _, rfl, ifF (ne_str (by decide +kernel)) ?_⟩⟩
      refine ⟨_, rfl, (l.1 : Int), rfl, by omega, by omega, fun D hD => cl_range (n := l.1) (fun o => o != p) (fun i v _ => v = .int ((i : Nat) : Int)) hD (by omega) (fun _ => rfl) (fun _ _ _ _ h _ => h) (fun o H3 _ e3 Q q => ⟨_, rfl, _, rfl, rfl, _, rfl, ?_⟩) (fun k H3 _ _ _ e3 _ Q q => ⟨_, rfl, q _ H3 (Ex.refl H3) rfl⟩) (fun H3 out e3 hD3 hq => ?_)⟩
      · exact ne_bne o p ▸ q H3 (Ex.refl H3)
      · have ho : out = nv (restF l.1 p) := paired_eq hq
        subst ho
        refine ⟨_, rfl, rfl, _, rfl, ifF (ne_str (by decide +kernel)) ?_⟩
        have hC3 := ex_t e3 hC
        refine ⟨_, rfl, _, rfl, c, rfl, ⟨_, hC3⟩, fun D2 hD2 => cl_tup hC3 (fun i => !(l.2.getD i []).contains p) (fun i v H' => TI K H' (l.2.getD i []) v) hD2 (by omega) (fun _ => rfl) (fun _ _ _ _ h k => h.tk k.tk) (fun i H4 hi e4 Q q => ?_) (fun i H4 acc hi _ e4 _ Q q => ?_) (fun H4 out e4 hD4 hq => ?_)⟩
        · obtain ⟨⟨d, hd, hdS⟩, _, _⟩ := paired_at hP hi [] .non
          refine ⟨_, rfl, _, rfl, d, nv (l.2.getD i []), by rw [hd], .inr (ex_t (e3.trans e4) hdS), rfl, nv_flat _, _, rfl, ?_⟩
          rw [if_pos rfl, inV_nv]
          exact q H4 (Ex.refl H4)
        · exact ⟨_, rfl, q _ H4 (Ex.refl H4) (TI.tk (paired_at hP hi [] .non).1 (tk_of (e3.trans e4)))⟩
        · rw [hl] at hq
          have hq2 := paired_kept (F := TI K H4) (p := fun b => !b.contains p) hq
          have hrl := rest_len hp
          exact ⟨restF l.1 p, l.2.filter fun b => !b.contains p, .ref D, .ref D2, rfl, ⟨D, rfl, ex_l e4 (.inl (.inl hD3))⟩, ⟨D2, out, rfl, .inl (.inl hD4), hq2⟩, (rest_asc _ _).nodup, by omega, Nat.le_trans (List.length_filter_le _ _) hm, fun b hb => Nat.le_trans (hO.blk b (List.mem_filter.mp hb).1).len hO.most, fun v2 H5 e5 hv2 => q _ _ ((e3.trans e4).trans e5) hv2⟩
end
end EM
set_option Elab.async false
set_option linter.all false
set_option maxRecDepth 100000
set_option maxHeartbeats 2000000
namespace EM
open PySem PySem.Spec PyProof.Rows L2 Evl
section
variable {P : Program} {w : World} {K : PySem.W.Frag} {mg : Str → Option Value} {base : Heap}
/-! ### _law_names(cell, many) -/
def sp__law_names (K : PySem.W.Frag) : Sp := fun vs H Q _ => ∃ (c : Int), vs = [.int c, .int 5] ∧ ∀ v H' (ns : List Str), Ex H H' → ns.length = 5 → (∀ n ∈ ns, Nm n) → ns.Nodup → (∃ a, v = .ref a ∧ SqL K H' a (ns.map V.str)) → Q v H'
def ABC : Str := "abcdefghijklmnopqrstuvwxyz"
def AllL (z : Str) : Prop := ∀ c ∈ TL.tl z, 97 ≤ c ∧ c ≤ 122
theorem abc_at {i : Nat} (h : i < 26) : ∃ c, atI ABC.cps.toList ((i : Nat) : Int) = some c ∧ 97 ≤ c ∧ c ≤ 122 := by
  have e : ABC.cps.toList = (List.range 26).map fun i => 97 + i := by decide +kernel
  refine ⟨97 + i, atI_nat ?_, by omega, by omega⟩
  rw [e, List.getElem?_map, List.getElem?_range h]
  rfl
theorem abc_len : ABC.length = 26 := by decide +kernel
theorem tl_one (c : Nat) : TL.tl (⟨#[c]⟩ : Str) = [c] := rfl
theorem tl_cutTo (z : Str) (k : Nat) : TL.tl (cutS z none (some (k : Int))) = (TL.tl z).take k := by
  show ((TL.tl z).drop (HT.sIx z.length 0 none)).take (HT.sIx z.length z.length (some (k : Int)) - HT.sIx z.length 0 none) = _
  rw [HT.sIx_none, show HT.sIx z.length z.length (some (k : Int)) = min k z.length from HT.sIx_nat _ _ _, List.drop_zero, Nat.sub_zero, TL.len_tl]
  by_cases h : k ≤ (TL.tl z).length
  · rw [Nat.min_eq_left h]
  · rw [Nat.min_eq_right (by omega), List.take_length, List.take_of_length_le (by omega)]
theorem tl_cutFrom (z : Str) (k : Nat) : TL.tl (cutS z (some (k : Int)) none) = (TL.tl z).drop k := by
  show ((TL.tl z).drop (HT.sIx z.length 0 (some (k : Int)))).take (HT.sIx z.length z.length none - HT.sIx z.length 0 (some (k : Int))) = _
  rw [HT.sIx_none, show HT.sIx z.length 0 (some (k : Int)) = min k z.length from HT.sIx_nat _ _ _, TL.len_tl]
  by_cases h : k ≤ (TL.tl z).length
  · rw [Nat.min_eq_left h, ← List.length_drop, List.take_length]
  · rw [Nat.min_eq_right (by omega), List.drop_of_length_le (Nat.le_refl _), List.drop_of_length_le (show (TL.tl z).length ≤ k by omega), List.take_nil]
theorem name_of {w : Str} {k c : Nat} (hl : w.length ≤ 7) (hw : AllL w) (hc : 97 ≤ c ∧ c ≤ 122) : Nm (cutS w none (some (k : Int)) ++ (⟨#[c]⟩ : Str) ++ cutS w (some (k : Int)) none) := by
  have e : TL.tl (cutS w none (some (k : Int)) ++ (⟨#[c]⟩ : Str) ++ cutS w (some (k : Int)) none) = (TL.tl w).take k ++ [c] ++ (TL.tl w).drop k := by
    rw [TL.tl_append, TL.tl_append, tl_cutTo, tl_cutFrom, tl_one]
  have hlen : (cutS w none (some (k : Int)) ++ (⟨#[c]⟩ : Str) ++ cutS w (some (k : Int)) none).length = w.length + 1 := by
    rw [TL.len_tl, e, TL.len_tl w]
    simp
    omega
  refine ⟨by rw [hlen]; omega, by rw [hlen]; omega, fun x hx => ?_⟩
  rw [e] at hx
  rcases List.mem_append.mp hx with hx | hx
  · rcases List.mem_append.mp hx with hx | hx
    · exact hw x (List.mem_of_mem_take hx)
    · rw [List.mem_singleton] at hx
      rw [hx]
      exact hc
  · exact hw x (List.mem_of_mem_drop hx)
theorem lens_at {x : Int} (h : 0 ≤ x) : ∃ n : Nat, n ≤ 7 ∧ atI [V.int 0, V.int 1, V.int 7, V.int 3, V.int 5] (x % 5) = some (.int (n : Int)) := by
  have h1 : x % 5 = 0 ∨ x % 5 = 1 ∨ x % 5 = 2 ∨ x % 5 = 3 ∨ x % 5 = 4 := by omega
  rcases h1 with h1 | h1 | h1 | h1 | h1 <;> rw [h1]
  · exact ⟨0, by omega, rfl⟩
  · exact ⟨1, by omega, rfl⟩
  · exact ⟨7, by omega, rfl⟩
  · exact ⟨3, by omega, rfl⟩
  · exact ⟨5, by omega, rfl⟩
def d5 : List Str := ["show", "wish", "put", "at", "dual"]
theorem d5_nm : ∀ n ∈ d5, Nm n := fun n h => by
  simp only [d5, List.mem_cons, List.not_mem_nil, or_false] at h
  rcases h with h | h | h | h | h <;> rw [h]
  · exact nm_show
  · exact nm_wish
  · exact nm_put
  · exact nm_at
  · exact nm_dual
theorem d5_nodup : d5.Nodup := by decide +kernel
theorem sc__law_names : FnScope ["_law_cell_here", "_law_many", "_law_letters", "_law_same", "_law_found", "_law_k", "_law_x", "_law_word", "_law_j", "_law_at"] ["_law_cell_here", "_law_many"] (defScope sLNames) := ⟨rfl, rfl, rfl, by decide +kernel, rfl, by decide +kernel, by decide +kernel⟩
theorem ok__law_names (F : At K mg "_law_names" "_law_names" sLNames) (T : Tx K w mg) (G__law_numbers : Cal P w K mg base CX0 1 "_law_numbers" ["_law_cell_here", "_law_many"] (sp__law_numbers K)) : Cal P w K mg base CX0 2 "_law_names" ["_law_cell_here", "_law_many"] (sp__law_names K) := by
  have S := sc__law_names
  refine F.cal S (fun _ _ _ _ _ _ us hl => match us, hl with | [_, _], _ => rfl) (fun vs H Q E h => ?_) (fun cdv f A outer s H vs Q E hr h => ?_)
  · obtain ⟨c, rfl, _⟩ := h
    rfl
  · obtain ⟨c, rfl, q⟩ := h
    refine ⟨_, (pss_cons (ps_set (i := 2) S.nd rfl (by first | exact Or.inl rfl | exact Or.inr rfl) pe_str)
      (pss_cons (ps_set (i := 3) S.nd rfl (by first | exact Or.inl rfl | exact Or.inr rfl) (pe_cmpR (op_eq) (pe_op (op_mod) (pv 0) pe_int) pe_int (nomark _)))
      (pss_cons (ps_set (i := 4) S.nd rfl (by first | exact Or.inl rfl | exact Or.inr rfl) (pe_lst pa_nil))
      (pss_cons (ps_for PassesOwn.never rfl (pi_enum rfl T.enumerate (pa_cons (pe_cc G__law_numbers (hr.mono (by decide)) (pa_cons (pv 0) (pa_cons (pv 1) pa_nil))) pa_nil)) (pg_tup rfl (pgs_cons (pg_name (i := 5) S.nd rfl (by first | exact Or.inl rfl | exact Or.inr rfl)) (pgs_cons (pg_name (i := 6) S.nd rfl (by first | exact Or.inl rfl | exact Or.inr rfl)) pgs_nil)))
      (pss_cons (ps_set (i := 7) S.nd rfl (by first | exact Or.inl rfl | exact Or.inr rfl) pe_str)
      (pss_cons (ps_if (pt_val (pv 3))
      (pss_one (ps_set (i := 6) S.nd rfl (by first | exact Or.inl rfl | exact Or.inr rfl) (pe_op (op_add) (pe_op (op_mod) (pv 6) pe_int) (pe_op (op_mul) pe_int (pe_op (op_mod) (pv 0) pe_int)))))
      pss_nil)
      (pss_cons (ps_for PassesOwn.never rfl (pi_range1 rfl T.range (pa_cons (pe_ix (xix_list K) (pe_lst (pa_cons pe_int (pa_cons pe_int (pa_cons pe_int (pa_cons pe_int (pa_cons pe_int pa_nil)))))) (pe_op (op_mod) (pv 6) pe_int) (fun _ _ => rfl)) pa_nil)) (pg_name (i := 8) S.nd rfl (by first | exact Or.inl rfl | exact Or.inr rfl))
      (pss_cons (ps_set (i := 6) S.nd rfl (by first | exact Or.inl rfl | exact Or.inr rfl) (pe_op (op_add) (pe_op (op_mul) (pv 6) pe_int) pe_int))
      (pss_one (ps_set (i := 7) S.nd rfl (by first | exact Or.inl rfl | exact Or.inr rfl) (pe_op (op_add_str) (pv 7) (pe_ix ix_str (pv 2) (pe_op (op_mod) (pe_op (op_fdiv) (pv 6) pe_int) pe_int) (fun _ _ => rfl)))))))
      (pss_cons (ps_set (i := 9) S.nd rfl (by first | exact Or.inl rfl | exact Or.inr rfl) (pe_op (op_mod) (pe_op (op_fdiv) (pv 6) pe_int) (pe_op (op_add) (pe_callB call_len_str rfl T.len bt_len (pa_cons (pv 7) pa_nil)) pe_int)))
      (pss_one (ps_expr (xpe_bm K PySem.F.plainAttrs_list PySem.F.slot_list_append PySem.F.type_list_append mt_append (pv 4) (pa_cons (pe_op (op_add_str) (pe_op (op_add_str) (pe_slice sl_str (pv 7) po_none (po_some (pv 9))) (pe_ix ix_str (pv 2) (pv 5) (fun _ _ => rfl))) (pe_slice sl_str (pv 7) (po_some (pv 9)) po_none)) pa_nil)))))))))
      (pss_cons (ps_if (PW.pt (pw_or (pt_cmpR (op_lt) (pe_lenSetS rfl T.len rfl T.set (pv 4)) (pv 1) (nomark _)) (pw_or1 (pt_cmpR (op_eq) (pe_op (op_mod) (pe_op (op_fdiv) (pv 0) pe_int) pe_int) pe_int (nomark _)))))
      (pss_one (ps_ret (pe_slice (xsl_list K) (pe_lst (pa_cons pe_str (pa_cons pe_str (pa_cons pe_str (pa_cons pe_str (pa_cons pe_str pa_nil)))))) po_none (po_some (pv 1)))))
      pss_nil)
      (pss_one (ps_ret (pv 4)))))))), ?_⟩
    refine asg_c (v := .str ABC) (i := 2) ?_
    refine ⟨_, rfl, _, _, rfl, rfl, (by show (0 : Int) < _; decide), rfl, ?_⟩
    generalize decide (V.int (c % 2) = V.int 1) = same
    refine ⟨Nat.zero_le _, fun d nd => ?_⟩
    have ed := Ex.new nd (o := .lst [])
    refine ⟨_, rfl, _, rfl, c, 5, rfl, by decide, fun v H1 xs e1 hxl hv => ?_⟩
    obtain ⟨a, rfl, na, hA⟩ := hv
    have nad : a ≠ d := fun z => by
      rw [z, upd_same] at na
      cases na
    have hd1 : H1 d = some (.lst []) := e1 _ _ upd_same
    refine ⟨a, nv xs, rfl, .inl (.inl hA), for_it (walk_enum (K := K) (a := a) (xs := nv xs)) (fun i σ H' => ∃ u5 u6 u7 u8 u9 : Option V, ∃ ns : List Str, σ = [some (.int c), some (.int 5), some (.str ABC), some (.bl same), some (.ref d), u5, u6, u7, u8, u9] ∧ Ex H H' ∧ H' a = some (.lst (nv xs)) ∧ H' d = some (.lst (ns.map V.str)) ∧ ns.length = i ∧ ∀ n ∈ ns, Nm n)
      ⟨_, _, _, _, _, [], rfl, ed.trans e1, hA, hd1, rfl, fun _ h => by cases h⟩ (fun i σ H' _ ⟨_, _, _, _, _, _, _, _, e, _⟩ => .inl (.inl e)) ?_ ?_⟩
    · rintro i x σ H' H2 hi ⟨u5, u6, u7, u8, u9, ns, rfl, e, ha, hd, hnl, hnm⟩ ⟨T', y1, y2, rfl, nT, rfl, g1, g2⟩
      obtain ⟨p, g3, rfl⟩ := nv_get g2
      have e1 : y1 = .int (i : Int) := (Option.some.inj g1).symm
      subst e1
      have eT := Ex.new nT (o := .tup [.int (i : Int), .int (p : Int)])
      have haT := eT _ _ ha
      have hdT := eT _ _ hd
      rw [nv_len] at hi
      refine ⟨T', _, rfl, .inl (.inl upd_same), rfl, _, _, rfl, _, _, rfl, rfl, ?_⟩
      refine asg_c (v := .str Str.empty) (i := 7) ?_
      try dsimp only
      generalize hHT : upd H' T' (.tup [.int (i : Int), .int (p : Int)]) = HT at eT haT hdT ⊢
      refine seq_first (fun σ' H'' => ∃ x : Int, 0 ≤ x ∧ σ' = [some (.int c), some (.int 5), some (.str ABC), some (.bl same), some (.ref d), some (.int (i : Int)), some (.int x), some (.str Str.empty), u8, u9] ∧ H'' = HT) ?_ ?_
      · rintro σ' H'' ⟨x, hx, rfl, rfl⟩
        obtain ⟨n, hn, hat⟩ := lens_at hx
        refine ⟨by show 5 ≤ sizeLine; decide, fun o no => ?_⟩
        have eo := Ex.new no (o := .lst [V.int 0, V.int 1, V.int 7, V.int 3, V.int 5])
        refine ⟨_, rfl, _, _, rfl, rfl, (by show (0 : Int) < _; decide), o, _, _, _, rfl, rfl, .inl (.inl upd_same), hat, (n : Int), rfl, by omega, by omega, fr_range (n := n) (fun j σ H3 => ∃ (x : Int) (w : Str) (v8 : Option V), 0 ≤ x ∧ w.length = j ∧ AllL w ∧ σ = [some (.int c), some (.int 5), some (.str ABC), some (.bl same), some (.ref d), some (.int (i : Int)), some (.int x), some (.str w), v8, u9] ∧ H3 = upd H'' o (.lst [V.int 0, V.int 1, V.int 7, V.int 3, V.int 5]))
          ⟨x, Str.empty, _, hx, rfl, (fun _ h => nomatch h), rfl, rfl⟩ ?_ ?_⟩
        · rintro j σ H3 hj ⟨x, w, v8, hx, hw, hA, rfl, rfl⟩
          obtain ⟨k, hk, ek⟩ : ∃ k : Nat, k < 26 ∧ (x * 7 + 5) / 5 % 26 = (k : Int) := ⟨((x * 7 + 5) / 5 % 26).toNat, by omega, by omega⟩
          obtain ⟨ch, hch, hlo⟩ := abc_at hk
          have hat2 : atI ABC.cps.toList ((x * 7 + 5) / 5 % 26) = some ch := by rw [ek]; exact hch
          refine ⟨_, rfl, _, _, rfl, rfl, cmulR (by decide), _, _, rfl, rfl, ?_⟩
          refine ⟨_, rfl, _, rfl, _, rfl, _, _, rfl, rfl, ⟨by decide, by decide⟩, _, _, rfl, rfl, (by show (0 : Int) < _; decide), ABC, _, ch, rfl, rfl, by rw [abc_len]; decide, hat2, _, _, rfl, rfl, ?_, x * 7 + 5, w ++ (⟨#[ch]⟩ : Str), _, by omega, ?_, ?_, rfl, rfl⟩
          · exact len_nat (by show w.length + 1 ≤ _; omega)
          · rw [append_len, hw]
            rfl
          · intro y hy
            rw [TL.tl_append] at hy
            rcases List.mem_append.mp hy with hy | hy
            · exact hA y hy
            · rw [tl_one, List.mem_singleton] at hy
              rw [hy]
              exact hlo
        · rintro σ H3 ⟨x, w, v8, hx, hw, hA, rfl, rfl⟩
          have hwl : w.length ≤ sizeLine := len_nat (by omega)
          obtain ⟨k, ek⟩ : ∃ k : Nat, x / 11 % ((w.length : Int) + 1) = (k : Int) := ⟨(x / 11 % ((w.length : Int) + 1)).toNat, (Int.toNat_of_nonneg (Int.emod_nonneg _ (by omega))).symm⟩
          obtain ⟨ch, hch, hlo⟩ := abc_at (i := i) (by omega)
          have hnm1 : Nm (cutS w none (some (x / 11 % ((w.length : Int) + 1))) ++ (⟨#[ch]⟩ : Str) ++ cutS w (some (x / 11 % ((w.length : Int) + 1))) none) := by
            rw [ek]
            exact name_of (by omega) hA hlo
          have hsum : (cutS w none (some (x / 11 % ((w.length : Int) + 1))) ++ (⟨#[ch]⟩ : Str)).length + (cutS w (some (x / 11 % ((w.length : Int) + 1))) none).length ≤ 8 := by
            rw [← append_len]
            exact hnm1.most
          have hsum1 : (cutS w none (some (x / 11 % ((w.length : Int) + 1)))).length + (⟨#[ch]⟩ : Str).length ≤ 8 := by
            rw [append_len] at hsum
            omega
          have hd3 := eo _ _ hdT
          refine ⟨_, rfl, _, _, rfl, rfl, ⟨by decide, by decide⟩, _, rfl, w, rfl, hwl, _, _, rfl, rfl, _, _, rfl, rfl, (by show (0 : Int) < _; omega), ?_⟩
          refine ⟨_, rfl, .inl ⟨rfl, _, .inl (.inl hd3)⟩, _, rfl, _, rfl, _, rfl, w, rfl, hwl, _, rfl, _, rfl, ABC, _, ch, rfl, rfl, by rw [abc_len]; decide, hch, _, _, rfl, rfl, len_nat (by omega), _, rfl, _, rfl, _, rfl, w, rfl, hwl, _, _, rfl, rfl, len_nat (by omega), d, _, _, rfl, rfl, hd3, sz_lt (by rw [List.length_map]; omega), ?_⟩
          refine ⟨_, _, _, _, _, ns ++ [cutS w none (some (x / 11 % ((w.length : Int) + 1))) ++ (⟨#[ch]⟩ : Str) ++ cutS w (some (x / 11 % ((w.length : Int) + 1))) none], rfl, Ex.mut ((e.trans eT).trans eo) nd, ?_, ?_, ?_, ?_⟩
          · rw [upd_ne nad]
            exact eo _ _ haT
          · rw [List.map_append]
            exact upd_same
          · rw [List.length_append, hnl]
            rfl
          · intro y hy
            rcases List.mem_append.mp hy with hy | hy
            · exact hnm y hy
            · rw [List.mem_singleton] at hy
              rw [hy]
              exact hnm1
      · intro key
        refine ⟨_, rfl, same, rfl, ite2 (fun hs => ?_) (fun hs => key _ _ ⟨p, by omega, rfl, rfl⟩)⟩
        refine ⟨_, rfl, _, _, rfl, rfl, (by show (0 : Int) < _; decide), _, rfl, _, _, rfl, rfl, (by show (0 : Int) < _; decide), _, _, rfl, rfl, cmulL (by decide), _, _, rfl, rfl, key _ _ ⟨_, ?_, rfl, rfl⟩⟩
        have h1 : 0 ≤ (p : Int) % 5 := Int.emod_nonneg _ (by decide)
        have h2 : 0 ≤ c % 997 := Int.emod_nonneg _ (by decide)
        show 0 ≤ (p : Int) % 5 + 1000 * (c % 997)
        omega
    · rintro σ H' ⟨u5, u6, u7, u8, u9, ns, rfl, e, ha, hd, hnl, hnm⟩
      rw [nv_len, hxl] at hnl
      try dsimp only
      refine ⟨_, rfl, d, ns, rfl, .inl (.inl hd), by omega, _, rfl, _, _, rfl, rfl, _, rfl, ite2 (fun hc => ?_) (fun hc => ?_)⟩
      · refine ifT rfl ⟨by show 5 ≤ sizeLine; decide, fun o no => ⟨_, rfl, 5, rfl, o, _, rfl, .inl (.inl upd_same), fun t nt => q _ _ d5 (e.trans ((Ex.new no).trans (Ex.new nt))) rfl d5_nm d5_nodup ⟨t, rfl, .inl (.inl upd_same)⟩⟩⟩
      · refine ⟨_, rfl, _, _, rfl, rfl, ⟨by decide, by decide⟩, _, _, rfl, rfl, (by show (0 : Int) < _; decide), rfl, _, rfl, ite2 (fun _ => ?_) (fun _ => ?_)⟩
        · refine ⟨by show 5 ≤ sizeLine; decide, fun o no => ⟨_, rfl, 5, rfl, o, _, rfl, .inl (.inl upd_same), fun t nt => q _ _ d5 (e.trans ((Ex.new no).trans (Ex.new nt))) rfl d5_nm d5_nodup ⟨t, rfl, .inl (.inl upd_same)⟩⟩⟩
        · refine ⟨_, rfl, q _ H' ns e hnl hnm (uq_nodup ?_) ⟨d, rfl, .inl (.inl hd)⟩⟩
          have h1 : ¬ (((uq ns).length : Int) < 5) := fun z => hc (decide_eq_true z)
          omega
end
end EM
set_option Elab.async false
set_option linter.all false
set_option maxRecDepth 100000
set_option maxHeartbeats 2000000
namespace EM
open PySem PySem.Spec PyProof.Rows L2 Evl
section
variable {P : Program} {w : World} {K : PySem.W.Frag} {mg : Str → Option Value} {base : Heap}
/-! ### _law_small(cell, most) -/
def sp__law_small (K : PySem.W.Frag) : Sp := fun vs H Q _ => ∃ (c : Int) (mo : Nat), vs = [.int c, .int (mo : Int)] ∧ 1 ≤ mo ∧ mo ≤ 30 ∧ ∀ v H' (l : Lay), Ex H H' → LOk l → LY K H' l v → Q v H'
theorem nv_ix {ns : List Nat} {k : Nat} (h : k < ns.length) : atI (nv ns) ((k : Nat) : Int) = some (.int ((ns.getD k 0 : Nat) : Int)) := atI_nat (nv_at (by simp [List.getD_eq_getElem?_getD, h]))
theorem shl_pos (k : Nat) : (0 : Int) < 1 * 2 ^ k := by
  have h : (0 : Int) < 2 ^ k := Int.pow_pos (by decide)
  omega
theorem paired_take {α β : Type} {F : α → β → Prop} : ∀ {l : List α} {m : List β} (k : Nat), Paired F l m → Paired F (l.take k) (m.take k)
  | _, _, 0, _ => by simp [Paired.nil]
  | _, _, k + 1, .nil => by simp [Paired.nil]
  | _, _, k + 1, .cons r t => .cons r (paired_take k t)
theorem slice_xs {ns : List Nat} (p : Nat) : cutV (nv ns) (some 2) (some (2 + (p : Int) % 9)) = nv ((ns.drop 2).take (p % 9)) := by
  rw [show (2 + (p : Int) % 9) = ((2 + p % 9 : Nat) : Int) by omega, show (2 : Int) = ((2 : Nat) : Int) from rfl, cutV_mid, nv_drop, nv_take, Nat.add_sub_cancel_left]
/-- a law's blocks -/
def GS (K : PySem.W.Frag) (H : Hp) (c : Int) (mo m : Nat) (a : Addr) (ns : List Nat) (σ' : L2.St) (H' : Hp) : Prop := ∃ (a4 : Addr) (vs : List V) (bs : List (List Nat)), σ' = [some (.int c), some (.int (mo : Int)), some (.ref a), some (.int (m : Int)), some (.ref a4), none] ∧ Ex H H' ∧ SqL K H' a (nv ns) ∧ SqL K H' a4 vs ∧ Paired (TI K H') bs vs ∧ bs.length ≤ 8 ∧ ∀ b ∈ bs, Blk m b
theorem blocks_of {K : PySem.W.Frag} {H : Hp} {m n : Nat} {out : List V} (hp : Paired (fun _ v => ∃ b, Blk m b ∧ TI K H b v) (kept n fun _ => true) out) (hn : n ≤ 8) : ∃ bs : List (List Nat), Paired (TI K H) bs out ∧ bs.length ≤ 8 ∧ ∀ b ∈ bs, Blk m b := by
  obtain ⟨bs, h1, h2, h3⟩ := paired_choose (P := Blk m) (F := TI K H) hp fun c b h => h
  have h4 := kept_len n fun _ => true
  exact ⟨bs, h3, by omega, h2⟩
theorem sc__law_small : FnScope ["_law_cell_here", "_law_most", "_law_xs", "_law_many", "_law_blocks", "_law_x"] ["_law_cell_here", "_law_most"] (defScope sLSmall) := ⟨rfl, rfl, rfl, by decide +kernel, rfl, by decide +kernel, by decide +kernel⟩
theorem ok__law_small (F : At K mg "_law_small" "_law_small" sLSmall) (T : Tx K w mg) (G__law_numbers : Cal P w K mg base CX0 1 "_law_numbers" ["_law_cell_here", "_law_many"] (sp__law_numbers K)) (G__law_mask : Cal P w K mg base CX0 1 "_law_mask" ["_law_x", "_law_many"] (sp__law_mask K)) (G__law_of_size : Cal P w K mg base CX0 1 "_law_of_size" ["_law_x", "_law_many", "_law_size"] (sp__law_of_size K)) (G__law_turned_base : Cal P w K mg base CX0 1 "_law_turned_base" ["_law_base", "_law_many"] (sp__law_turned_base K)) : Cal P w K mg base CX0 2 "_law_small" ["_law_cell_here", "_law_most"] (sp__law_small K) := by
  have S := sc__law_small
  refine F.cal S (fun _ _ _ _ _ _ us hl => match us, hl with | [_, _], _ => rfl) (fun vs H Q E h => ?_) (fun cdv f A outer s H vs Q E hr h => ?_)
  · obtain ⟨c, mo, rfl, _⟩ := h
    rfl
  · obtain ⟨c, mo, rfl, hmo1, hmo, q⟩ := h
    refine ⟨_, (pss_cons (ps_set (i := 2) S.nd rfl (by first | exact Or.inl rfl | exact Or.inr rfl) (pe_cc G__law_numbers (hr.mono (by decide)) (pa_cons (pv 0) (pa_cons pe_int pa_nil))))
      (pss_cons (ps_set (i := 3) S.nd rfl (by first | exact Or.inl rfl | exact Or.inr rfl) (pe_op (op_add) pe_int (pe_op (op_mod) (pe_ix (xix_list K) (pv 2) pe_int (fun _ _ => rfl)) (pv 1))))
      (pss_cons (ps_setLc (i := 4) (own := [("_law_x", 5)]) (g := gName 5) rfl S.nd rfl rfl (sw_true rfl rfl rfl (by decide +kernel)) (xpi_list K (pe_slice (xsl_list K) (pv 2) (po_some pe_int) (po_some (pe_op (op_add) pe_int (pe_op (op_mod) (pe_ix (xix_list K) (pv 2) pe_int (fun _ _ => rfl)) pe_int))))) (blkOk_by (by kernel_rfl)) (fun _ _ _ _ _ => (pg_name (i := 5) S.nd rfl (by first | exact Or.inl rfl | exact Or.inr rfl))) (fun _ _ _ _ _ => pts_nil) (fun _ _ _ _ _ => (pe_cc G__law_mask (hr.mono (by decide)) (pa_cons (pe_op (op_mod) (pv 5) (pe_op (op_shl) pe_int (pv 3))) (pa_cons (pv 3) pa_nil)))))
      (pss_cons (ps_if (pt_cmpR (op_eq) (pe_op (op_mod) (pe_ix (xix_list K) (pv 2) pe_int (fun _ _ => rfl)) pe_int) pe_int (nomark _))
      (pss_one (ps_setLc (i := 4) (own := [("_law_x", 5)]) (g := gName 5) rfl S.nd rfl rfl (sw_true rfl rfl rfl (by decide +kernel)) (xpi_list K (pe_slice (xsl_list K) (pv 2) (po_some pe_int) (po_some (pe_op (op_add) pe_int (pe_op (op_mod) (pe_ix (xix_list K) (pv 2) pe_int (fun _ _ => rfl)) pe_int))))) (blkOk_by (by kernel_rfl)) (fun _ _ _ _ _ => (pg_name (i := 5) S.nd rfl (by first | exact Or.inl rfl | exact Or.inr rfl))) (fun _ _ _ _ _ => pts_nil) (fun _ _ _ _ _ => (pe_cc G__law_of_size (hr.mono (by decide)) (pa_cons (pv 5) (pa_cons (pv 3) (pa_cons (pe_op (op_mod) (pe_ix (xix_list K) (pv 2) pe_int (fun _ _ => rfl)) (pe_op (op_add) (pv 3) pe_int)) pa_nil)))))))
      pss_nil)
      (pss_cons (ps_if (pt_cmpR (op_eq) (pe_op (op_mod) (pe_ix (xix_list K) (pv 2) pe_int (fun _ _ => rfl)) pe_int) pe_int (nomark _))
      (pss_one (ps_set (i := 4) S.nd rfl (by first | exact Or.inl rfl | exact Or.inr rfl) (pe_slice (xsl_list K) (pe_op (op_rep) (pe_cc G__law_turned_base (hr.mono (by decide)) (pa_cons (pe_cc G__law_mask (hr.mono (by decide)) (pa_cons (pe_op (op_mod) (pe_ix (xix_list K) (pv 2) pe_int (fun _ _ => rfl)) (pe_op (op_shl) pe_int (pv 3))) (pa_cons (pv 3) pa_nil))) (pa_cons (pv 3) pa_nil))) pe_int) po_none (po_some pe_int))))
      pss_nil)
      (pss_one (ps_ret (pe_tup (pa_cons (pv 3) (pa_cons (pe_callTy (xtuple_of K) rfl T.tuple bt_tuple (pa_cons (pv 4) pa_nil)) pa_nil)))))))))), ?_⟩
    refine ⟨_, rfl, c, 20, rfl, by decide, fun v H1 ns e1 hnl hv => ?_⟩
    obtain ⟨a, rfl, na, ha⟩ := hv
    have hA : SqL K H1 a (nv ns) := .inl (.inl ha)
    dsimp only [gName]
    refine seq_first (fun σ' H' => ∃ m : Nat, 1 ≤ m ∧ m ≤ 30 ∧ σ' = [some (.int c), some (.int (mo : Int)), some (.ref a), some (.int (m : Int)), none, none] ∧ H' = H1) ?_ ?_
    · rintro σ' H' ⟨m, hm1, hm, rfl, rfl⟩
      refine seq_first (GS K H c mo m a ns) ?_ ?_
      · rintro σ' H2 ⟨a4, vs, bs, rfl, e, hA2, hS4, hP, hbl, hb⟩
        refine seq_first (GS K H c mo m a ns) ?_ ?_
        · rintro σ' H2 ⟨a4, vs, bs, rfl, e, hA2, hS4, hP, hbl, hb⟩
          refine seq_first (GS K H c mo m a ns) ?_ ?_
          · rintro σ' H2 ⟨a4, vs, bs, rfl, e, hA2, hS4, hP, hbl, hb⟩
            refine ⟨_, rfl, _, rfl, a4, vs, rfl, .inl ⟨hS4, fun t ht => ⟨by show 2 ≤ sizeLine; decide, fun p hp => ?_⟩⟩⟩
            have e3 := Ex.new ht (o := .tup vs)
            have e4 := Ex.new hp (o := .tup [.int (m : Int), .ref t])
            exact q _ _ (m, bs) ((e.trans e3).trans e4) ⟨hm1, by show m ≤ 60; omega, by show bs.length ≤ 60; omega, hb⟩ ⟨p, _, rfl, .inl (.inl upd_same), t, vs, rfl, ex_t e4 (.inl (.inl upd_same)), paired_ti hP (tk_of (e3.trans e4))⟩
          · intro key
            refine ⟨_, rfl, a, _, 11, _, rfl, rfl, hA2, nv_ix (k := 11) (by omega), _, _, rfl, rfl, (by show (0 : Int) < _; decide), rfl, _, rfl, ite2 (fun _ => ?_) (fun _ => key _ _ ⟨a4, vs, bs, rfl, e, hA2, hS4, hP, hbl, hb⟩)⟩
            have hx0 : 0 ≤ ((ns.getD 12 0 : Nat) : Int) % (1 * 2 ^ ((m : Nat) : Int).toNat) := Int.emod_nonneg _ (by have := shl_pos ((m : Nat) : Int).toNat; omega)
            refine ⟨_, rfl, a, _, 12, _, rfl, rfl, hA2, nv_ix (k := 12) (by omega), _, rfl, _, _, rfl, rfl, ⟨by omega, by omega, by decide⟩, _, _, rfl, rfl, shl_pos _, _, rfl, _, m, (by rw [Int.toNat_of_nonneg hx0]; rfl), by omega, fun v H3 b e3 hb3 hT => ?_⟩
            refine ⟨_, rfl, b, m, v, rfl, hT, by omega, by omega, by have := hb3.len; omega, fun v2 H4 e4 hv2 => ?_⟩
            obtain ⟨a5, us, rfl, ha5, hp5⟩ := hv2
            have hul := hp5.length
            rw [List.length_map, List.length_range] at hul
            refine ⟨a5, 2, us, rfl, rfl, ha5, by decide, by decide, len_nat (by show us.length * 2 ≤ _; omega), fun l nl => ⟨8, rfl, l, _, rfl, .inl (.inl upd_same), fun t nt => ?_⟩⟩
            have el := Ex.new nl (o := .lst (List.replicate (2 : Int).toNat us).flatten)
            rw [show (8 : Int) = ((8 : Nat) : Int) from rfl, cutV_take0]
            have et := Ex.new nt (o := .lst ((List.replicate (2 : Int).toNat us).flatten.take 8))
            have eall := ((e3.trans e4).trans el).trans et
            have hfl : (List.replicate (2 : Int).toNat us).flatten = us ++ us := by
              show us ++ (us ++ []) = us ++ us
              rw [List.append_nil]
            refine key _ _ ⟨t, _, (((List.range m).map fun t => turnF m t b) ++ ((List.range m).map fun t => turnF m t b)).take 8, rfl, e.trans eall, ex_l eall hA2, .inl (.inl upd_same), ?_, by rw [List.length_take]; omega, fun b2 hb2 => ?_⟩
            · have z := paired_take 8 (paired_append (paired_ti hp5 (tk_of (el.trans et))) (paired_ti hp5 (tk_of (el.trans et))))
              rw [← hfl] at z
              exact z
            · have h3 := List.mem_of_mem_take hb2
              have h4 : b2 ∈ (List.range m).map fun t => turnF m t b := by
                rcases List.mem_append.mp h3 with h | h <;> exact h
              obtain ⟨t', _, rfl⟩ := List.mem_map.mp h4
              exact turn_blk (by omega) hb3.asc.nodup hb3.bel
        · intro key
          refine ⟨_, rfl, a, _, 11, _, rfl, rfl, hA2, nv_ix (k := 11) (by omega), _, _, rfl, rfl, (by show (0 : Int) < _; decide), rfl, _, rfl, ite2 (fun _ => ?_) (fun _ => key _ _ ⟨a4, vs, bs, rfl, e, hA2, hS4, hP, hbl, hb⟩)⟩
          refine ⟨_, rfl, 2, rfl, _, rfl, a, _, 1, _, rfl, rfl, hA2, nv_ix (k := 1) (by omega), _, _, rfl, rfl, (by show (0 : Int) < _; decide), _, _, rfl, rfl, _, rfl, a, _, rfl, hA2, fun t nt => ?_⟩
          rw [slice_xs]
          have et := Ex.new nt (o := .lst (nv ((ns.drop 2).take (ns.getD 1 0 % 9))))
          have hsl : (nv ((ns.drop 2).take (ns.getD 1 0 % 9))).length ≤ 8 := by
            rw [nv_len, List.length_take]
            omega
          refine ⟨t, rfl, ⟨_, .inl (.inl upd_same)⟩, fun D hD => cl_list (xs := nv ((ns.drop 2).take (ns.getD 1 0 % 9))) (.inl (.inl upd_same)) (fun _ => true) (fun _ v H' => ∃ b, Blk m b ∧ TI K H' b v) hD (by omega) (fun _ => rfl) (fun _ _ _ _ ⟨b, hb, h⟩ k => ⟨b, hb, h.tk k.tk⟩) (fun i H2 _ _ Q q => q H2 (Ex.refl H2)) (fun i H3 acc hi _ e3 _ Q q => ?_) (fun H3 out e3 hD' hp => ?_)⟩
          · obtain ⟨p, _, _, h4, h5⟩ := nv_getD hi
            have hz0 : 0 ≤ ((ns.getD 12 0 : Nat) : Int) % ((m : Int) + 1) := Int.emod_nonneg _ (by omega)
            refine ⟨_, rfl, _, rfl, _, rfl, a, _, 12, _, rfl, rfl, ex_l (et.trans e3) hA2, nv_ix (k := 12) (by omega), _, rfl, _, _, rfl, rfl, _, _, rfl, rfl, (by show (0 : Int) < _; omega), p, m, _, (by rw [h5, Int.toNat_of_nonneg hz0]; rfl), by omega, fun v H4 b e4 hb4 hT => q _ H4 e4 ⟨b, hb4, hT⟩⟩
          · obtain ⟨bs2, g1, g2, g3⟩ := blocks_of hp hsl
            exact key _ _ ⟨D, out, bs2, rfl, e.trans (et.trans e3), ex_l (et.trans e3) hA2, .inl (.inl hD'), g1, g2, g3⟩
      · intro key
        refine ⟨_, rfl, 2, rfl, _, rfl, a, _, 1, _, rfl, rfl, hA, nv_ix (k := 1) (by omega), _, _, rfl, rfl, (by show (0 : Int) < _; decide), _, _, rfl, rfl, _, rfl, a, _, rfl, hA, fun t nt => ?_⟩
        rw [slice_xs]
        have et := Ex.new nt (o := .lst (nv ((ns.drop 2).take (ns.getD 1 0 % 9))))
        have hsl : (nv ((ns.drop 2).take (ns.getD 1 0 % 9))).length ≤ 8 := by
          rw [nv_len, List.length_take]
          omega
        refine ⟨t, rfl, ⟨_, .inl (.inl upd_same)⟩, fun D hD => cl_list (xs := nv ((ns.drop 2).take (ns.getD 1 0 % 9))) (.inl (.inl upd_same)) (fun _ => true) (fun _ v H' => ∃ b, Blk m b ∧ TI K H' b v) hD (by omega) (fun _ => rfl) (fun _ _ _ _ ⟨b, hb, h⟩ k => ⟨b, hb, h.tk k.tk⟩) (fun i H2 _ _ Q q => q H2 (Ex.refl H2)) (fun i H3 acc hi _ e3 _ Q q => ?_) (fun H3 out e3 hD' hp => ?_)⟩
        · obtain ⟨p, _, _, h4, h5⟩ := nv_getD hi
          have hx0 : 0 ≤ (p : Int) % (1 * 2 ^ ((m : Nat) : Int).toNat) := Int.emod_nonneg _ (by have := shl_pos ((m : Nat) : Int).toNat; omega)
          refine ⟨_, rfl, _, rfl, _, _, rfl, rfl, ⟨by omega, by omega, by decide⟩, (p : Int), _, by rw [h5], rfl, shl_pos _, _, rfl, _, m, (by rw [Int.toNat_of_nonneg hx0]; rfl), by omega, fun v H4 b e4 hb4 hT => q _ H4 e4 ⟨b, hb4, hT⟩⟩
        · obtain ⟨bs2, g1, g2, g3⟩ := blocks_of hp hsl
          exact key _ _ ⟨D, out, bs2, rfl, e1.trans (et.trans e3), ex_l (et.trans e3) hA, .inl (.inl hD'), g1, g2, g3⟩
    · intro key
      refine ⟨_, rfl, a, _, 0, _, rfl, rfl, hA, nv_ix (k := 0) (by omega), _, rfl, _, _, rfl, rfl, (by show (0 : Int) < _; omega), _, _, rfl, rfl, key _ _ ⟨1 + ns.getD 0 0 % mo, by omega, ?_, ?_, rfl⟩⟩
      · have := Nat.mod_lt (ns.getD 0 0) (show 0 < mo by omega)
        omega
      · rw [show ((1 + ns.getD 0 0 % mo : Nat) : Int) = 1 + ((ns.getD 0 0 : Nat) : Int) % (mo : Int) by push_cast; rfl]
        rfl
end
end EM
set_option Elab.async false
set_option linter.all false
set_option maxRecDepth 100000
set_option maxHeartbeats 2000000
namespace EM
open PySem PySem.Spec PyProof.Rows L2 Evl
section
variable {P : Program} {w : World} {K : PySem.W.Frag} {mg : Str → Option Value} {base : Heap}
theorem hu0 {A : Around} {k : Nat} (hr : Room k A) : A.units < cLine := by
  have := hr.un
  omega
/-! ### _law_deed(kept, names, cell) -/
/-- what a deed is: its row, its name, what it makes -/
structure Deed (K : PySem.W.Frag) (H' : Hp) (f : Ks) (ns : List Str) (r : Row) (l : Lay) (v : V) : Prop where
  does : Does f r l
  ok : r.ok
  first : r.first ∈ ns
  val : ∃ p x, v = .ref p ∧ SqT K H' p [.str r.text, .str r.first, x] ∧ LY K H' l x
def sp__law_deed (K : PySem.W.Frag) : Sp := fun vs H Q _ => ∃ (dk nl : Addr) (c : Int) (kvs : List (Key × V)) (f : Ks) (ns : List Str), vs = [.ref dk, .ref nl, .int c] ∧ H dk = some (.dK kvs) ∧ Kr K H kvs f ns ∧ SqL K H nl (ns.map V.str) ∧ ns.length = 5 ∧ (∀ n ∈ ns, Nm n) ∧ (∀ n l, f n = some l → LOk l) ∧ ∀ v H' r l, Ex H H' → Deed K H' f ns r l v → Q v H'
theorem many_of {x : Nat} : ∃ mo : Nat, 1 ≤ mo ∧ mo ≤ 30 ∧ atI [V.int 7, V.int 7, V.int 30] ((x : Int) % 3) = some (.int (mo : Int)) := by
  have h1 : (x : Int) % 3 = 0 ∨ (x : Int) % 3 = 1 ∨ (x : Int) % 3 = 2 := by omega
  rcases h1 with h1 | h1 | h1 <;> rw [h1]
  · exact ⟨7, by omega, by omega, rfl⟩
  · exact ⟨7, by omega, by omega, rfl⟩
  · exact ⟨30, by omega, by omega, rfl⟩
theorem many_of9 {x : Nat} : ∃ mo : Nat, 1 ≤ mo ∧ mo ≤ 20 ∧ atI [V.int 9, V.int 9, V.int 20] ((x : Int) % 3) = some (.int (mo : Int)) := by
  have h1 : (x : Int) % 3 = 0 ∨ (x : Int) % 3 = 1 ∨ (x : Int) % 3 = 2 := by omega
  rcases h1 with h1 | h1 | h1 <;> rw [h1]
  · exact ⟨9, by omega, by omega, rfl⟩
  · exact ⟨9, by omega, by omega, rfl⟩
  · exact ⟨20, by omega, by omega, rfl⟩
theorem getD_ix {l : List Str} {i : Nat} (h : i < l.length) : l.getD i Str.empty = l[i] := by
  rw [List.getD_eq_getElem?_getD, List.getElem?_eq_getElem h]
  rfl
abbrev rAS : R2 := fun x y H Q => ∃ i j, x = V.str i ∧ y = V.str j ∧ i.length + j.length ≤ sizeLine ∧ Q (.str (i ++ j)) H
theorem slice31 {ns : List Nat} (p : Nat) : cutV (nv ns) (some 31) (some (32 + (p : Int) % 3)) = nv ((ns.drop 31).take (1 + p % 3)) := by
  rw [show (32 + (p : Int) % 3) = ((32 + p % 3 : Nat) : Int) by omega, show (31 : Int) = ((31 : Nat) : Int) from rfl, cutV_mid, nv_drop, nv_take, show 32 + p % 3 - 31 = 1 + p % 3 by omega]
theorem lls_ex {K : PySem.W.Frag} {H H' : Hp} {bs : List (List Nat)} {v : V} (h : LLs K H bs v) (e : Ex H H') : LLs K H' bs v := by
  obtain ⟨a, vs, rfl, hS, hP⟩ := h
  exact ⟨a, vs, rfl, ex_l e hS, hP.mono fun b v ⟨p, h1, h2⟩ => ⟨p, h1, ex_l e h2⟩⟩
theorem kr_key {K : PySem.W.Frag} {H : Hp} {kvs : List (Key × V)} {f : Ks} {ns : List Str} (h : Kr K H kvs f ns) {n : Str} (hm : (Sum.inr n : Key) ∈ kvs.map (·.1)) : ∃ l v, f n = some l ∧ valV kvs (Sum.inr n : Key) = some v ∧ LY K H l v := by
  rcases h.val n with q | q
  · exact absurd hm (key_mem q.2)
  · exact q
def w5 : List V := [.str "complement", .str "dual", .str "at", .str "off", .str "at"]
theorem md_of {way : Nat} (h1 : 3 ≤ way) (h2 : way < 8) : ∃ md : Md, atI w5 ((way : Int) - 3) = some (.str md.word) := by
  have h : way = 3 ∨ way = 4 ∨ way = 5 ∨ way = 6 ∨ way = 7 := by omega
  rcases h with h | h | h | h | h <;> subst h
  · exact ⟨.comp, rfl⟩
  · exact ⟨.dual, rfl⟩
  · exact ⟨.pat, rfl⟩
  · exact ⟨.poff, rfl⟩
  · exact ⟨.pat, rfl⟩
def w2 : List V := [.str "at", .str "off"]
theorem w2_comp : inV (.str "complement") w2 = false := by decide +kernel
theorem w2_dual : inV (.str "dual") w2 = false := by decide +kernel
theorem w2_at : inV (.str "at") w2 = true := by decide +kernel
theorem w2_off : inV (.str "off") w2 = true := by decide +kernel
theorem cw_dual : ¬ ("complement" : Str) = "dual" := by decide +kernel
theorem ifN {b : Bool} {c : Bool} (h : c = b) : (if false = true then !c else c) = b := h
theorem md_len (md : Md) : md.word.length ≤ 10 := by
  cases md with
  | comp => show ("complement" : Str).length ≤ 10; decide +kernel
  | dual => show ("dual" : Str).length ≤ 10; decide +kernel
  | pat => show ("at" : Str).length ≤ 10; decide +kernel
  | poff => show ("off" : Str).length ≤ 10; decide +kernel
theorem sc__law_deed : FnScope ["_law_kept_here", "_law_names_here", "_law_cell_here", "_law_xs", "_law_new", "_law_way", "_law_layout", "_law_n", "_law_bases", "_law_x", "_law_name", "_law_word", "_law_row", "_law_point"] ["_law_kept_here", "_law_names_here", "_law_cell_here"] (defScope sLDeed) := ⟨rfl, rfl, rfl, by decide +kernel, rfl, by decide +kernel, by decide +kernel⟩
theorem ok__law_deed (F : At K mg "_law_deed" "_law_deed" sLDeed) (T : Tx K w mg) (G__law_numbers : Cal P w K mg base CX0 1 "_law_numbers" ["_law_cell_here", "_law_many"] (sp__law_numbers K)) (G__law_small : Cal P w K mg base CX0 2 "_law_small" ["_law_cell_here", "_law_most"] (sp__law_small K)) (G__law_text : Cal P w K mg base CX0 1 "_law_text" ["_law_layout"] (sp__law_text K)) (G__law_turned_some : Cal P w K mg base CX0 1 "_law_turned_some" ["_law_some", "_law_x"] (sp__law_turned_some K)) (G__law_mask : Cal P w K mg base CX0 1 "_law_mask" ["_law_x", "_law_many"] (sp__law_mask K)) (G__law_bases_text : Cal P w K mg base CX0 1 "_law_bases_text" ["_law_bases"] (sp__law_bases_text K)) (G__law_developed : Cal P w K mg base CX0 1 "_law_developed" ["_law_n", "_law_bases"] (sp__law_developed K)) (G__law_made : Cal P w K mg base CX0 2 "_law_made" ["_law_word", "_law_layout", "_law_point"] (sp__law_made K)) : Cal P w K mg base CX0 3 "_law_deed" ["_law_kept_here", "_law_names_here", "_law_cell_here"] (sp__law_deed K) := by
  have S := sc__law_deed
  refine F.cal S (fun _ _ _ _ _ _ us hl => match us, hl with | [_, _, _], _ => rfl) (fun vs H Q E h => ?_) (fun cdv f A outer s H vs Q E hr h => ?_)
  · obtain ⟨dk, nl, c, kvs, f, ns, rfl, _⟩ := h
    rfl
  · obtain ⟨dk, nl, c, kvs, g, ns, rfl, hdic, hkr, hN, hnl, hnm, hok, q⟩ := h
    have hu := hu_of hr
    refine ⟨_, (pss_cons (ps_set (i := 3) S.nd rfl (by first | exact Or.inl rfl | exact Or.inr rfl) (pe_cc G__law_numbers (hr.mono (by decide)) (pa_cons (pv 2) (pa_cons pe_int pa_nil))))
      (pss_cons (ps_set (i := 4) S.nd rfl (by first | exact Or.inl rfl | exact Or.inr rfl) (pe_ix (xix_list K) (pv 1) (pe_op (op_mod) (pe_ix (xix_list K) (pv 3) pe_int (fun _ _ => rfl)) (pe_callB (xlen_seq K) rfl T.len bt_len (pa_cons (pv 1) pa_nil))) (fun _ _ => rfl)))
      (pss_cons (ps_set (i := 5) S.nd rfl (by first | exact Or.inl rfl | exact Or.inr rfl) (pe_op (op_mod) (pe_ix (xix_list K) (pv 3) pe_int (fun _ _ => rfl)) pe_int))
      (pss_cons (ps_if (PW.pt (pw_or (pt_cmpR (op_eqE (hu0 hr)) (pv 0) pe_dnewK (nomark _)) (pw_or1 (pt_cmpR (op_lt) (pv 5) pe_int (nomark _)))))
      (pss_cons (ps_set (i := 6) S.nd rfl (by first | exact Or.inl rfl | exact Or.inr rfl) (pe_cc G__law_small (hr.mono (by decide)) (pa_cons (pv 2) (pa_cons (pe_ix (xix_list K) (pe_lst (pa_cons pe_int (pa_cons pe_int (pa_cons pe_int pa_nil)))) (pe_op (op_mod) (pe_ix (xix_list K) (pv 3) pe_int (fun _ _ => rfl)) pe_int) (fun _ _ => rfl)) pa_nil))))
      (pss_one (ps_ret (pe_tup (pa_cons (pe_op (op_add_str) (pe_op (op_add_str) (pe_op (op_add_str) pe_str (pv 4)) pe_str) (pe_cc G__law_text (hr.mono (by decide)) (pa_cons (pv 6) pa_nil))) (pa_cons (pv 4) (pa_cons (pv 6) pa_nil)))))))
      pss_nil)
      (pss_cons (ps_if (pt_cmpR (op_eq) (pv 5) pe_int (nomark _))
      (pss_cons (ps_set (i := 7) S.nd rfl (by first | exact Or.inl rfl | exact Or.inr rfl) (pe_op (op_add) pe_int (pe_op (op_mod) (pe_ix (xix_list K) (pv 3) pe_int (fun _ _ => rfl)) (pe_ix (xix_list K) (pe_lst (pa_cons pe_int (pa_cons pe_int (pa_cons pe_int pa_nil)))) (pe_op (op_mod) (pe_ix (xix_list K) (pv 3) pe_int (fun _ _ => rfl)) pe_int) (fun _ _ => rfl)))))
      (pss_cons (ps_setLc (i := 8) (own := [("_law_x", 9)]) (g := gName 9) rfl S.nd rfl rfl (sw_true rfl rfl rfl (by decide +kernel)) (xpi_list K (pe_slice (xsl_list K) (pv 3) (po_some pe_int) (po_some (pe_op (op_add) pe_int (pe_op (op_mod) (pe_ix (xix_list K) (pv 3) pe_int (fun _ _ => rfl)) pe_int))))) (blkOk_by (by kernel_rfl)) (fun _ _ _ _ _ => (pg_name (i := 9) S.nd rfl (by first | exact Or.inl rfl | exact Or.inr rfl))) (fun _ _ _ _ _ => pts_nil) (fun _ _ _ _ _ => (pe_cc G__law_turned_some (hr.mono (by decide)) (pa_cons (pe_cc G__law_mask (hr.mono (by decide)) (pa_cons (pe_op (op_mod) (pv 9) (pe_op (op_shl) pe_int (pv 7))) (pa_cons (pv 7) pa_nil))) (pa_cons (pv 9) pa_nil)))))
      (pss_one (ps_ret (pe_tup (pa_cons (pe_op (op_add_str) (pe_op (op_add_str) (pe_op (op_add_str) (pe_op (op_add_str) (pe_op (op_add_str) pe_str (pv 4)) pe_str) (pe_callTy call_str_int rfl T.str bt_str (pa_cons (pv 7) pa_nil))) pe_str) (pe_cc G__law_bases_text (hr.mono (by decide)) (pa_cons (pv 8) pa_nil))) (pa_cons (pv 4) (pa_cons (pe_cc G__law_developed (hr.mono (by decide)) (pa_cons (pv 7) (pa_cons (pv 8) pa_nil))) pa_nil))))))))
      pss_nil)
      (pss_cons (ps_set (i := 10) S.nd rfl (by first | exact Or.inl rfl | exact Or.inr rfl) (pe_ix (xix_list K) (pe_callB (call_sortedD rfl) rfl T.sorted bt_sorted (pa_cons (pv 0) pa_nil)) (pe_op (op_mod) (pe_ix (xix_list K) (pv 3) pe_int (fun _ _ => rfl)) (pe_callB call_lenD rfl T.len bt_len (pa_cons (pv 0) pa_nil))) (fun _ _ => rfl)))
      (pss_cons (ps_set (i := 6) S.nd rfl (by first | exact Or.inl rfl | exact Or.inr rfl) (pe_dget hu (pv 0) (pv 10) (fun _ _ => rfl)))
      (pss_cons (ps_set (i := 11) S.nd rfl (by first | exact Or.inl rfl | exact Or.inr rfl) (pe_ix (xix_list K) (pe_lst (pa_cons pe_str (pa_cons pe_str (pa_cons pe_str (pa_cons pe_str (pa_cons pe_str pa_nil)))))) (pe_op (op_sub) (pv 5) pe_int) (fun _ _ => rfl)))
      (pss_cons (ps_if (PW.pt (pw_or (PW.pt (pw_and (pt_cmpR (op_eq) (pv 11) pe_str (nomark _)) (pw_and1 (pt_not (pt_chain op_lt op_lt pe_int (pe_callB (xlen_seq K) rfl T.len bt_len (pa_cons (pe_ix (xix_tup K) (pv 6) pe_int (fun _ _ => rfl)) pa_nil)) pe_int))))) (pw_or1 (PW.pt (pw_and (pt_cmpR (xop_in K) (pv 11) (pe_tup (pa_cons pe_str (pa_cons pe_str pa_nil))) rfl) (pw_and1 (pt_cmpR (op_eq) (pe_ix (xix_tup K) (pv 6) pe_int (fun _ _ => rfl)) pe_int (nomark _))))))))
      (pss_one (ps_set (i := 11) S.nd rfl (by first | exact Or.inl rfl | exact Or.inr rfl) pe_str))
      pss_nil)
      (pss_cons (ps_set (i := 12) S.nd rfl (by first | exact Or.inl rfl | exact Or.inr rfl) (pe_op (op_add_str) (pe_op (op_add_str) (pe_op (op_add_str) (pe_op (op_add_str) (pv 11) pe_str) (pv 4)) pe_str) (pv 10)))
      (pss_cons (ps_set (i := 13) S.nd rfl (by first | exact Or.inl rfl | exact Or.inr rfl) (pe_op (op_mod) (pe_ix (xix_list K) (pv 3) pe_int (fun _ _ => rfl)) (pe_ix (xix_tup K) (pv 6) pe_int (fun _ _ => rfl))))
      (pss_cons (ps_if (pt_cmpR (xop_in K) (pv 11) (pe_tup (pa_cons pe_str (pa_cons pe_str pa_nil))) rfl)
      (pss_one (ps_set (i := 12) S.nd rfl (by first | exact Or.inl rfl | exact Or.inr rfl) (pe_op (op_add_str) (pe_op (op_add_str) (pv 12) pe_str) (pe_callTy call_str_int rfl T.str bt_str (pa_cons (pv 13) pa_nil)))))
      pss_nil)
      (pss_one (ps_ret (pe_tup (pa_cons (pv 12) (pa_cons (pv 4) (pa_cons (pe_cc G__law_made (hr.mono (by decide)) (pa_cons (pv 11) (pa_cons (pv 6) (pa_cons (pv 13) pa_nil)))) pa_nil)))))))))))))))))), ?_⟩
    refine ⟨_, rfl, c, 50, rfl, by decide, fun v H1 xs e1 hxl hv => ?_⟩
    obtain ⟨a, rfl, na, ha⟩ := hv
    have hA : SqL K H1 a (nv xs) := .inl (.inl ha)
    have hN1 := ex_l e1 hN
    have hmlen : (ns.map V.str).length = 5 := by rw [List.length_map, hnl]
    have hk5 : xs.getD 0 0 % 5 < ns.length := by rw [hnl]; exact Nat.mod_lt _ (by decide)
    have hat0 : atI (ns.map V.str) (((xs.getD 0 0 : Nat) : Int) % ((ns.map V.str).length : Int)) = some (.str (ns.getD (xs.getD 0 0 % 5) Str.empty)) := by
      rw [hmlen, show ((xs.getD 0 0 : Nat) : Int) % ((5 : Nat) : Int) = ((xs.getD 0 0 % 5 : Nat) : Int) from (Int.natCast_emod _ _).symm]
      refine atI_nat ?_
      rw [List.getElem?_map, List.getElem?_eq_getElem hk5, getD_ix hk5]
      rfl
    have hnew : ns.getD (xs.getD 0 0 % 5) Str.empty ∈ ns := by
      rw [getD_ix hk5]
      exact List.getElem_mem hk5
    generalize ns.getD (xs.getD 0 0 % 5) Str.empty = new at hat0 hnew
    have hnn := hnm _ hnew
    have hnln := hnn.most
    refine ⟨_, rfl, _, rfl, a, _, 0, _, rfl, rfl, hA, nv_ix (k := 0) (by omega), _, rfl, nl, _, rfl, .inl hN1, _, _, rfl, rfl, (by show (0 : Int) < _; rw [hmlen]; decide), nl, _, _, _, rfl, rfl, hN1, hat0, ?_⟩
    refine ⟨_, rfl, a, _, 1, _, rfl, rfl, hA, nv_ix (k := 1) (by omega), _, _, rfl, rfl, (by show (0 : Int) < _; decide), ?_⟩
    dsimp only [gName]
    have way8 : xs.getD 1 0 % 8 < 8 := Nat.mod_lt _ (by decide)
    have eway : ((xs.getD 1 0 : Nat) : Int) % 8 = ((xs.getD 1 0 % 8 : Nat) : Int) := (Int.natCast_emod _ _).symm
    rw [eway]
    generalize xs.getD 1 0 % 8 = way at way8 ⊢
    have BODY : ∀ (D : Ends), D.rt = Q → ∀ H2, Ex H1 H2 → tSeq (tAsg (tCall (sp__law_small K) [] E0 (tCons (tVar 2) (tCons (tOp (rIxL K) (tLst (tCons (tC (V.int 7)) (tCons (tC (V.int 7)) (tCons (tC (V.int 30)) tNil)))) (tOp (rI (fun x j => 0 < j) fun i j => V.int (i % j)) (tOp (rIxL K) (tVar 3) (tC (V.int 3))) (tC (V.int 3)))) tNil))) (gName 6))
        (tRet (tTup (tCons (tOp rAS (tOp rAS (tOp rAS (tC (V.str (Str.ofString "put "))) (tVar 4)) (tC (V.str (Str.ofString " ")))) (tCall (sp__law_text K) [] E0 (tCons (tVar 6) tNil))) (tCons (tVar 4) (tCons (tVar 6) tNil)))))
        D [some (.ref dk), some (.ref nl), some (.int c), some (.ref a), some (.str new), some (.int (way : Int)), none, none, none, none, none, none, none, none] H2 := by
      intro D hD H2 e2
      have hA2 := ex_l e2 hA
      obtain ⟨mo, hmo1, hmo2, hat⟩ := many_of (x := xs.getD 3 0)
      refine ⟨_, rfl, by show 3 ≤ sizeLine; decide, fun o no => ?_⟩
      have eo := Ex.new no (o := .lst [V.int 7, V.int 7, V.int 30])
      refine ⟨_, rfl, a, _, 3, _, rfl, rfl, ex_l eo hA2, nv_ix (k := 3) (by omega), _, _, rfl, rfl, (by show (0 : Int) < _; decide), o, _, _, _, rfl, rfl, .inl (.inl upd_same), hat, c, mo, rfl, hmo1, hmo2, fun v H3 l e3 hO hL => ?_⟩
      have hll := lay_len hO
      refine ⟨_, rfl, _, _, rfl, rfl, ?_, _, _, rfl, rfl, ?_, _, rfl, l, v, rfl, hL, hO, fun H4 e4 => ⟨_, _, rfl, rfl, ?_, _, rfl, _, rfl, by show 3 ≤ sizeLine; decide, fun p hp => ?_⟩⟩
      · exact len_nat (by show 4 + new.length ≤ _; omega)
      · exact len_nat (by rw [append_len]; show 4 + new.length + 1 ≤ _; omega)
      · exact len_nat (by rw [append_len, append_len]; show 4 + new.length + 1 + _ ≤ _; omega)
      · rw [hD]
        have ep := Ex.new hp (o := .tup [.str (((("put " : Str) ++ new) ++ (" " : Str)) ++ layT l), .str new, v])
        refine q _ _ (.put new l) l ((((e1.trans e2).trans eo).trans (e3.trans e4)).trans ep) ⟨.put hO, ⟨hnn, hO⟩, hnew, p, v, rfl, ?_, hL.tk (tk_of (e4.trans ep))⟩
        rw [← text_put]
        exact .inl (.inl upd_same)
    refine ⟨_, rfl, fun p hp => ⟨dk, p, kvs, rfl, rfl, (Ex.new hp (o := .dK [])) _ _ (e1 _ _ hdic), upd_same, _, rfl, ite2 (fun hc => ifT rfl (BODY _ rfl _ (Ex.new hp))) (fun hc => ⟨_, rfl, _, _, rfl, rfl, _, rfl, ite2 (fun hc => BODY _ rfl _ (Ex.new hp)) (fun hw => ?_)⟩)⟩⟩
    have hw2 : 2 ≤ way := by
      have z : ¬ ((way : Int) < 2) := fun y => hw (decide_eq_true y)
      omega
    have e2 : Ex H1 (upd H1 p (.dK [])) := Ex.new hp
    generalize upd H1 p (.dK []) = H2 at e2 ⊢
    have hA2 := ex_l e2 hA
    have hN2 := ex_l e2 hN1
    have hdic2 := e2 _ _ (e1 _ _ hdic)
    have hkr2 := hkr.tk (tk_of (e1.trans e2))
    have e12 := e1.trans e2
    refine ⟨_, rfl, rfl, _, rfl, ite2 (fun hc => ?_) (fun hc3 => ?_)⟩
    · -- turned
      obtain ⟨mo, hmo1, hmo2, hat⟩ := many_of9 (x := xs.getD 35 0)
      refine ⟨_, rfl, a, _, 30, _, rfl, rfl, hA2, nv_ix (k := 30) (by omega), by show 3 ≤ sizeLine; decide, fun o no => ?_⟩
      have eo := Ex.new no (o := .lst [V.int 9, V.int 9, V.int 20])
      refine ⟨_, rfl, a, _, 35, _, rfl, rfl, ex_l eo hA2, nv_ix (k := 35) (by omega), _, _, rfl, rfl, (by show (0 : Int) < _; decide), o, _, _, _, rfl, rfl, .inl (.inl upd_same), hat, _, _, rfl, rfl, (by show (0 : Int) < _; omega), _, _, rfl, rfl, ?_⟩
      dsimp only [gName]
      rw [show 1 + ((xs.getD 30 0 : Nat) : Int) % (mo : Int) = ((1 + xs.getD 30 0 % mo : Nat) : Int) by push_cast; rfl]
      have hn20 : 1 + xs.getD 30 0 % mo ≤ 20 := by
        have := Nat.mod_lt (xs.getD 30 0) (show 0 < mo by omega)
        omega
      have hn1 : 1 ≤ 1 + xs.getD 30 0 % mo := by omega
      generalize 1 + xs.getD 30 0 % mo = n at hn20 hn1 ⊢
      generalize hH3 : upd H2 o (.lst [V.int 9, V.int 9, V.int 20]) = H3 at eo ⊢
      have hA3 := ex_l eo hA2
      refine ⟨_, rfl, 31, rfl, _, rfl, a, _, 33, _, rfl, rfl, hA3, nv_ix (k := 33) (by omega), _, _, rfl, rfl, (by show (0 : Int) < _; decide), _, _, rfl, rfl, _, rfl, a, _, rfl, hA3, fun t nt => ?_⟩
      rw [slice31]
      have hsl : (nv ((xs.drop 31).take (1 + xs.getD 33 0 % 3))).length = 1 + xs.getD 33 0 % 3 := by
        rw [nv_len, List.length_take, List.length_drop]
        omega
      generalize (xs.drop 31).take (1 + xs.getD 33 0 % 3) = sl at hsl ⊢
      have et := Ex.new nt (o := .lst (nv sl))
      refine ⟨t, rfl, ⟨_, .inl (.inl upd_same)⟩, fun D hD => cl_list (xs := nv sl) (.inl (.inl upd_same)) (fun _ => true) (fun _ v H' => ∃ c p, Base n c ∧ v = .ref p ∧ p ≠ D ∧ H' p = some (.lst (nv c))) hD (by omega) (fun _ => rfl) (fun _ _ _ _ ⟨c, p, h1, h2, h3, h4⟩ k => ⟨c, p, h1, h2, h3, k.but _ _ h3 h4⟩) (fun i H2 _ _ Q q => q H2 (Ex.refl H2)) (fun i H4 acc hi _ e4 hacc Q q => ?_) (fun H4 out e4 hD' hp => ?_)⟩
      · obtain ⟨p, _, _, h4, h5⟩ := nv_getD hi
        have hx0 : 0 ≤ (p : Int) % (1 * 2 ^ ((n : Nat) : Int).toNat) := Int.emod_nonneg _ (by have := shl_pos ((n : Nat) : Int).toNat; omega)
        refine ⟨_, rfl, _, rfl, _, _, rfl, rfl, ⟨by omega, by omega, by decide⟩, (p : Int), _, by rw [h5], rfl, shl_pos _, _, rfl, _, n, (by rw [Int.toNat_of_nonneg hx0]; rfl), by omega, fun v H5 b e5 hb5 hT => ?_⟩
        refine ⟨_, rfl, b, p, v, (by rw [h5]; rfl), hT, by have := hb5.len; omega, fun v2 H6 c e6 hperm hv2 => ?_⟩
        obtain ⟨y, rfl, ny, hy⟩ := hv2
        refine q _ H6 (e5.trans e6) ⟨c, y, ⟨hperm.nodup_iff.mpr hb5.asc.nodup, fun z hz => hb5.bel z (hperm.subset hz)⟩, rfl, fun z => ?_, hy⟩
        rw [z, e5 _ _ hacc] at ny
        cases ny
      · obtain ⟨bs, g1, g2, g3⟩ := paired_choose (P := Base n) (F := LI K H4) hp fun _ v ⟨c, p, h1, h2, _, h4⟩ => ⟨c, h1, p, h2, .inl (.inl h4)⟩
        rw [kept_all, List.length_range, hsl] at g1
        have hLL : LLs K H4 bs (.ref D) := ⟨D, out, rfl, .inl (.inl hD'), g3⟩
        have hbs0 : bs ≠ [] := fun z => by
          rw [z] at g1
          simp at g1
          omega
        have hsm : ∀ b ∈ bs, b.length ≤ 60 ∧ ∀ p ∈ b, p < 100 := fun b hb => ⟨by have := len_of_below (g2 b hb).nd (g2 b hb).bel; omega, fun p hp => by have := (g2 b hb).bel p hp; omega⟩
        have hbl := bas_len (show bs.length ≤ 60 by omega) hsm
        have hnl2 := nat_len (n := n) (k := 2) (by omega) (by omega)
        dsimp only [gName]
        have eH := ((e12.trans eo).trans (et.trans e4))
        refine ⟨_, rfl, _, _, rfl, rfl, ?_, _, _, rfl, rfl, ?_, _, rfl, (n : Int), rfl, log_small (by omega), _, _, rfl, rfl, ?_, _, _, rfl, rfl, ?_, _, rfl, bs, _, rfl, hLL, by omega, hsm, fun H5 e5 => ⟨_, _, rfl, rfl, ?_, _, rfl, _, rfl, _, rfl, n, bs, _, rfl, lls_ex hLL e5, hn1, hn20, by omega, g2, fun v2 H6 e6 hv2 => ⟨by show 3 ≤ sizeLine; decide, fun p hp => ?_⟩⟩⟩
        · exact len_nat (by show 7 + new.length ≤ _; omega)
        · exact len_nat (by rw [append_len]; show 7 + new.length + 1 ≤ _; omega)
        · exact len_nat (by rw [append_len, append_len]; show 7 + new.length + 1 + (natS n).length ≤ _; omega)
        · exact len_nat (by rw [append_len, append_len, append_len]; show 7 + new.length + 1 + (natS n).length + 1 ≤ _; omega)
        · exact len_nat (by rw [append_len, append_len, append_len, append_len]; show 7 + new.length + 1 + (natS n).length + 1 + (basT bs).length ≤ _; omega)
        · have ep := Ex.new hp (o := .tup [.str (((((("turned " : Str) ++ new) ++ (" " : Str)) ++ natS n) ++ (" " : Str)) ++ basT bs), .str new, v2])
          refine q _ _ (.turn new n bs) (devF n bs) ((eH.trans (e5.trans e6)).trans ep) ⟨.turn hn1 hn20 (by omega) hbs0 g2, ⟨hnn, by omega, hbs0, by omega, hsm⟩, hnew, p, v2, rfl, ?_, hv2.tk (tk_of ep)⟩
          rw [← text_turn new n hbs0]
          exact .inl (.inl upd_same)
    · -- one of those that stand
      have hw3 : 3 ≤ way := by
        have z : ¬ way = 2 := fun y => hc3 (decide_eq_true (by rw [y]; rfl))
        omega
      obtain ⟨ks, hks, hknd, hkin⟩ := hkr2.keys
      have hkl : kvs.length = ks.length := by
        have z := congrArg List.length hks
        rw [List.length_map, List.length_map] at z
        exact z
      have hkpos : 0 < kvs.length := by
        cases kvs with
        | nil => exact absurd rfl hc
        | cons _ _ => exact Nat.succ_pos _
      have hk5 : ks.length ≤ ns.length := str_nodup_len ks ns hknd hkin
      refine ⟨_, rfl, dk, kvs, ks, rfl, .inl hdic2, hks, by omega, fun ys p hperm _ hp => ?_⟩
      have ep := Ex.new hp (o := .lst (ys.map V.str))
      have hyl := hperm.length_eq
      have hix : xs.getD 2 0 % kvs.length < ys.length := by
        rw [hyl, ← hkl]
        exact Nat.mod_lt _ hkpos
      have hat : atI (ys.map V.str) (((xs.getD 2 0 : Nat) : Int) % (kvs.length : Int)) = some (.str (ys.getD (xs.getD 2 0 % kvs.length) Str.empty)) := by
        rw [show ((xs.getD 2 0 : Nat) : Int) % (kvs.length : Int) = ((xs.getD 2 0 % kvs.length : Nat) : Int) from (Int.natCast_emod _ _).symm]
        refine atI_nat ?_
        rw [List.getElem?_map, List.getElem?_eq_getElem hix, getD_ix hix]
        rfl
      have hmem : ys.getD (xs.getD 2 0 % kvs.length) Str.empty ∈ ks := by
        rw [getD_ix hix]
        exact hperm.subset (List.getElem_mem hix)
      generalize ys.getD (xs.getD 2 0 % kvs.length) Str.empty = name at hat hmem
      have hnin := hkin _ hmem
      have hnm2 := hnm _ hnin
      have hnml := hnm2.most
      have hkey : (Sum.inr name : Key) ∈ kvs.map (·.1) := by
        rw [hks]
        exact List.mem_map.mpr ⟨_, hmem, rfl⟩
      obtain ⟨l, v, hgl, hval, hLY⟩ := kr_key hkr2 hkey
      have hO := hok _ _ hgl
      refine ⟨_, rfl, a, _, 2, _, rfl, rfl, ex_l ep hA2, nv_ix (k := 2) (by omega), _, rfl, dk, kvs, rfl, ep _ _ hdic2, _, _, rfl, rfl, (by show (0 : Int) < _; omega), p, _, _, _, rfl, rfl, .inl (.inl upd_same), hat, ?_⟩
      refine ⟨_, rfl, _, rfl, dk, v, rfl, by rw [← hval]; exact DGet.k (k := (Sum.inr name : Key)) (ep _ _ hdic2), ?_⟩
      obtain ⟨md, hmd⟩ := md_of hw3 way8
      refine ⟨by show 5 ≤ sizeLine; decide, fun o no => ⟨_, rfl, _, _, rfl, rfl, o, w5, _, _, rfl, rfl, .inl (.inl upd_same), hmd, ?_⟩⟩
      have eo := Ex.new no (o := .lst w5)
      have e25 := ep.trans eo
      obtain ⟨va, vb, rfl, hT, vc, us, rfl, hC, hP⟩ := id hLY
      have hT5 := ex_t e25 hT
      have hC5 := ex_t e25 hC
      have hul : us.length = l.2.length := hP.length.symm
      have hlm := hO.many
      have hl1 := hO.pos
      have hl60 := hO.most
      have hLY5 := hLY.tk (tk_of e25)
      have hA5 := ex_l e25 hA2
      have e5 := e12.trans e25
      dsimp only [gName]
      refine seq_first (fun σ' H' => ∃ md : Md, (md = .dual → 0 < l.2.length) ∧ (md = .pat ∨ md = .poff → 2 ≤ l.1) ∧ σ' = [some (.ref dk), some (.ref nl), some (.int c), some (.ref a), some (.str new), some (.int (way : Int)), some (.ref va), none, none, none, some (.str name), some (.str md.word), none, none] ∧ Ex (upd (upd H2 p (.lst (ys.map V.str))) o (.lst w5)) H') ?_ ?_
      · rintro σ' H6 ⟨md, hmd1, hmd2, rfl, e56⟩
        have hmdl := md_len md
        have e6 := e5.trans e56
        have hA6 := ex_l e56 hA5
        have hT6 := ex_t e56 hT5
        have hL6 := hLY5.tk (tk_of e56)
        refine ⟨_, rfl, _, _, rfl, rfl, ?_, _, rfl, _, _, rfl, rfl, ?_, _, _, rfl, rfl, ?_, _, rfl, _, _, rfl, rfl, ?_, ?_⟩
        · exact len_nat (by show md.word.length + 1 ≤ _; omega)
        · exact len_nat (by rw [append_len]; show md.word.length + 1 + new.length ≤ _; omega)
        · exact len_nat (by rw [append_len, append_len]; show md.word.length + 1 + new.length + 1 ≤ _; omega)
        · exact len_nat (by rw [append_len, append_len, append_len]; show md.word.length + 1 + new.length + 1 + name.length ≤ _; omega)
        have hrl : ((((md.word ++ (" " : Str)) ++ new) ++ (" " : Str)) ++ name).length ≤ 40 := by
          rw [append_len, append_len, append_len, append_len]
          show md.word.length + 1 + new.length + 1 + name.length ≤ _
          omega
        refine ⟨_, rfl, a, _, 34, _, rfl, rfl, hA6, nv_ix (k := 34) (by omega), _, rfl, va, _, 0, _, rfl, rfl, hT6, atI_nat (j := 0) rfl, _, _, rfl, rfl, (by show (0 : Int) < _; omega), ?_⟩
        dsimp only [gName]
        rw [show ((xs.getD 34 0 : Nat) : Int) % (l.1 : Int) = ((xs.getD 34 0 % l.1 : Nat) : Int) from (Int.natCast_emod _ _).symm]
        have hpt : xs.getD 34 0 % l.1 < l.1 := Nat.mod_lt _ (by omega)
        generalize xs.getD 34 0 % l.1 = pt at hpt ⊢
        have hnpt := nat_len (n := pt) (k := 2) (by omega) (by omega)
        cases md with
        | comp =>
          refine ⟨_, rfl, by show 2 ≤ sizeLine; decide, fun p2 hp2 => ⟨p2, w2, rfl, .inr (.inl (.inl upd_same)), rfl, rfl, _, rfl, ifF (ifN w2_comp) ?_⟩⟩
          have e7 := Ex.new hp2 (o := .tup w2)
          refine ⟨_, rfl, _, rfl, _, rfl, _, rfl, _, rfl, .comp, l, pt, _, rfl, hL6.tk (tk_of e7), hO, hpt, fun v2 H8 e8 hv2 => ⟨by show 3 ≤ sizeLine; decide, fun p3 hp3 => ?_⟩⟩
          have e9 := Ex.new hp3 (o := .tup [.str ((((("complement" : Str) ++ (" " : Str)) ++ new) ++ (" " : Str)) ++ name), .str new, v2])
          refine q _ _ (.one false new name) (compF l) (((e6.trans e7).trans e8).trans e9) ⟨.comp hgl hO, ⟨hnn, hnm2⟩, hnew, p3, v2, rfl, ?_, hv2.tk (tk_of e9)⟩
          have z : (Row.one false new name).text = _ := (text_three "complement" new name).symm
          rw [z]
          exact .inl (.inl upd_same)
        | dual =>
          refine ⟨_, rfl, by show 2 ≤ sizeLine; decide, fun p2 hp2 => ⟨p2, w2, rfl, .inr (.inl (.inl upd_same)), rfl, rfl, _, rfl, ifF (ifN w2_dual) ?_⟩⟩
          have e7 := Ex.new hp2 (o := .tup w2)
          refine ⟨_, rfl, _, rfl, _, rfl, _, rfl, _, rfl, .dual, l, pt, _, rfl, hL6.tk (tk_of e7), hO, hpt, fun v2 H8 e8 hv2 => ⟨by show 3 ≤ sizeLine; decide, fun p3 hp3 => ?_⟩⟩
          have e9 := Ex.new hp3 (o := .tup [.str ((((("dual" : Str) ++ (" " : Str)) ++ new) ++ (" " : Str)) ++ name), .str new, v2])
          refine q _ _ (.one true new name) (dualF l) (((e6.trans e7).trans e8).trans e9) ⟨.dual hgl hO (hmd1 rfl), ⟨hnn, hnm2⟩, hnew, p3, v2, rfl, ?_, hv2.tk (tk_of e9)⟩
          have z : (Row.one true new name).text = _ := (text_three "dual" new name).symm
          rw [z]
          exact .inl (.inl upd_same)
        | pat =>
          refine ⟨_, rfl, by show 2 ≤ sizeLine; decide, fun p2 hp2 => ⟨p2, w2, rfl, .inr (.inl (.inl upd_same)), rfl, rfl, _, rfl, ifT (ifN w2_at) ?_⟩⟩
          have e7 := Ex.new hp2 (o := .tup w2)
          refine ⟨_, rfl, _, _, rfl, rfl, ?_, _, rfl, (pt : Int), rfl, log_small (by omega), _, _, rfl, rfl, ?_, ?_⟩
          · exact len_nat (Nat.le_trans (Nat.add_le_add_right hrl _) (by decide))
          · exact len_nat (by rw [append_len]; exact Nat.le_trans (Nat.add_le_add (Nat.add_le_add_right hrl 1) hnpt) (by decide))
          refine ⟨_, rfl, _, rfl, _, rfl, _, rfl, _, rfl, .pat, l, pt, _, rfl, hL6.tk (tk_of e7), hO, hpt, fun v2 H8 e8 hv2 => ⟨by show 3 ≤ sizeLine; decide, fun p3 hp3 => ?_⟩⟩
          have e9 := Ex.new hp3 (o := .tup [.str (((((("at" : Str) ++ (" " : Str)) ++ new) ++ (" " : Str)) ++ name) ++ (" " : Str) ++ natS pt), .str new, v2])
          refine q _ _ (.pt false new name pt) (atF l pt) (((e6.trans e7).trans e8).trans e9) ⟨.pat hgl hO hpt (hmd2 (.inl rfl)), ⟨hnn, hnm2, by omega⟩, hnew, p3, v2, rfl, ?_, hv2.tk (tk_of e9)⟩
          have z : (Row.pt false new name pt).text = _ := (text_four "at" new name pt).symm
          rw [z]
          exact .inl (.inl upd_same)
        | poff =>
          refine ⟨_, rfl, by show 2 ≤ sizeLine; decide, fun p2 hp2 => ⟨p2, w2, rfl, .inr (.inl (.inl upd_same)), rfl, rfl, _, rfl, ifT (ifN w2_off) ?_⟩⟩
          have e7 := Ex.new hp2 (o := .tup w2)
          refine ⟨_, rfl, _, _, rfl, rfl, ?_, _, rfl, (pt : Int), rfl, log_small (by omega), _, _, rfl, rfl, ?_, ?_⟩
          · exact len_nat (Nat.le_trans (Nat.add_le_add_right hrl _) (by decide))
          · exact len_nat (by rw [append_len]; exact Nat.le_trans (Nat.add_le_add (Nat.add_le_add_right hrl 1) hnpt) (by decide))
          refine ⟨_, rfl, _, rfl, _, rfl, _, rfl, _, rfl, .poff, l, pt, _, rfl, hL6.tk (tk_of e7), hO, hpt, fun v2 H8 e8 hv2 => ⟨by show 3 ≤ sizeLine; decide, fun p3 hp3 => ?_⟩⟩
          have e9 := Ex.new hp3 (o := .tup [.str (((((("off" : Str) ++ (" " : Str)) ++ new) ++ (" " : Str)) ++ name) ++ (" " : Str) ++ natS pt), .str new, v2])
          refine q _ _ (.pt true new name pt) (offF l pt) (((e6.trans e7).trans e8).trans e9) ⟨.poff hgl hO hpt (hmd2 (.inr rfl)), ⟨hnn, hnm2, by omega⟩, hnew, p3, v2, rfl, ?_, hv2.tk (tk_of e9)⟩
          have z : (Row.pt true new name pt).text = _ := (text_four "off" new name pt).symm
          rw [z]
          exact .inl (.inl upd_same)
      · intro key
        have kc : ∀ H', Ex (upd (upd H2 p (.lst (ys.map V.str))) o (.lst w5)) H' → _ := fun H' e => key _ H' ⟨.comp, nofun, nofun, rfl, e⟩
        cases md with
        | comp =>
          exact ⟨_, rfl, rfl, _, rfl, ifF (neS cw_dual) (ifF (by decide) ⟨_, rfl, by show 2 ≤ sizeLine; decide, fun p2 hp2 => ⟨p2, w2, rfl, .inr (.inl (.inl upd_same)), rfl, rfl, _, rfl, ifF (ifN w2_comp) (ifF (by decide) (kc _ (Ex.new hp2)))⟩⟩)⟩
        | dual =>
          refine ⟨_, rfl, rfl, _, rfl, ifT (decide_eq_true rfl) ⟨_, rfl, va, _, 1, _, rfl, rfl, hT5, atI_nat (j := 1) rfl, vc, us, rfl, .inr hC5, _, _, rfl, rfl, _, rfl, ite2 (fun h0 => ?_) (fun h0 => ?_)⟩⟩
          · have hpos : 0 < l.2.length := by
              have z := of_decide_eq_true h0
              omega
            exact ⟨_, _, rfl, rfl, _, rfl, ifF (by rw [decide_eq_true (by omega)]; rfl) ⟨_, rfl, by show 2 ≤ sizeLine; decide, fun p2 hp2 => ⟨p2, w2, rfl, .inr (.inl (.inl upd_same)), rfl, rfl, _, rfl, ifF (ifN w2_dual) (ifF (by decide) (key _ _ ⟨.dual, fun _ => hpos, nofun, rfl, Ex.new hp2⟩))⟩⟩⟩
          · exact ⟨_, rfl, ifT rfl (ifT rfl (kc _ (Ex.refl _)))⟩
        | pat =>
          refine ⟨_, rfl, rfl, _, rfl, ifF (neS aw_dual) (ifF (by decide) ⟨_, rfl, by show 2 ≤ sizeLine; decide, fun p2 hp2 => ⟨p2, w2, rfl, .inr (.inl (.inl upd_same)), rfl, rfl, _, rfl, ifT (ifN w2_at) ⟨_, rfl, va, _, 0, _, rfl, rfl, ex_t (Ex.new hp2) hT5, atI_nat (j := 0) rfl, rfl, _, rfl, ite2 (fun h1 => kc _ (Ex.new hp2)) (fun h1 => key _ _ ⟨.pat, nofun, fun _ => ?_, rfl, Ex.new hp2⟩)⟩⟩⟩)⟩
          have z : ¬ l.1 = 1 := fun y => h1 (decide_eq_true (by rw [y]; rfl))
          omega
        | poff =>
          refine ⟨_, rfl, rfl, _, rfl, ifF (neS ow_dual) (ifF (by decide) ⟨_, rfl, by show 2 ≤ sizeLine; decide, fun p2 hp2 => ⟨p2, w2, rfl, .inr (.inl (.inl upd_same)), rfl, rfl, _, rfl, ifT (ifN w2_off) ⟨_, rfl, va, _, 0, _, rfl, rfl, ex_t (Ex.new hp2) hT5, atI_nat (j := 0) rfl, rfl, _, rfl, ite2 (fun h1 => kc _ (Ex.new hp2)) (fun h1 => key _ _ ⟨.poff, nofun, fun _ => ?_, rfl, Ex.new hp2⟩)⟩⟩⟩)⟩
          have z : ¬ l.1 = 1 := fun y => h1 (decide_eq_true (by rw [y]; rfl))
          omega
end
end EM
set_option Elab.async false
set_option linter.all false
set_option maxRecDepth 100000
set_option maxHeartbeats 2000000
namespace EM
open PySem PySem.Spec PyProof.Rows L2 Evl
section
variable {P : Program} {w : World} {K : PySem.W.Frag} {mg : Str → Option Value} {base : Heap}
/-! ### law(script) -/
def sp_law (K : PySem.W.Frag) : Sp := fun vs H Q _ => ∃ (a : Addr) (xs : List Int), vs = [.ref a] ∧ SqL K H a (iv xs) ∧ xs.length ≤ 63 ∧ ∀ H', Q (.bl true) H'
theorem ne_at {H : Hp} {a b : Addr} {o : HO} (h1 : H a = some o) (h2 : H b = none) : a ≠ b := fun z => by
  rw [z, h2] at h1
  cases h1
/-- a list stands where a dict is written -/
theorem sql_kd {H H' : Hp} {a D : Addr} {xs : List V} {kvs : List (Key × V)} (h : SqL K H a xs) (e : KD D H H') (hD : H D = some (.dK kvs)) : SqL K H' a xs := by
  rcases h with h | h
  · rcases h with h | ⟨ob, h⟩
    · exact .inl (.inl (e.but _ _ (fun z => by rw [z, hD] at h; cases h) h))
    · exact .inl (.inr ⟨ob, e.but _ _ (fun z => by rw [z, hD] at h; cases h) h⟩)
  · exact .inr h
/-- a new desk -/
theorem desk_new {H : Hp} {x dx d : Addr} (hx : H x = none) (hdx : H dx = none) (hne : dx ≠ x) (hd : upd (upd H dx (.own x)) x (.ins (He.ga K "Desk") dx []) d = none) :
    Ex H (upd (upd (upd (upd H dx (.own x)) x (.ins (He.ga K "Desk") dx [])) d (.dK [])) x (.ins (He.ga K "Desk") dx [("kept", .ref d)])) ∧
    (∀ ns, Dk K (upd (upd (upd (upd H dx (.own x)) x (.ins (He.ga K "Desk") dx [])) d (.dK [])) x (.ins (He.ga K "Desk") dx [("kept", .ref d)])) x d (fun _ => none) ns) ∧ H d = none := by
  have e1 : Ex H (upd H dx (.own x)) := Ex.new hdx
  have hx1 : upd H dx (.own x) x = none := by rw [upd_ne (Ne.symm hne)]; exact hx
  have e2 := Ex.new hx1 (o := .ins (He.ga K "Desk") dx [])
  have e3 := Ex.new hd (o := .dK [])
  have nd : d ≠ x := fun z => by
    rw [z, upd_same] at hd
    cases hd
  refine ⟨Ex.mut ((e1.trans e2).trans e3) hx, fun ns => ⟨⟨dx, upd_same⟩, [], ?_, kr_nil⟩, fresh_back (e1.trans e2) hd⟩
  rw [upd_ne nd]
  exact upd_same
theorem iv_cut (xs : List Int) (lo hi : Option Int) : ∃ ys : List Int, cutV (iv xs) lo hi = iv ys ∧ ys.length ≤ xs.length := by
  refine ⟨(xs.drop (HT.sIx (iv xs).length 0 lo)).take (HT.sIx (iv xs).length (iv xs).length hi - HT.sIx (iv xs).length 0 lo), ?_, ?_⟩
  · unfold cutV
    generalize HT.sIx (iv xs).length 0 lo = p
    generalize HT.sIx (iv xs).length (iv xs).length hi = r
    unfold iv
    rw [List.map_take, List.map_drop]
  · rw [List.length_take, List.length_drop]
    omega
/-- what stands through the law -/
structure LawS (K : PySem.W.Frag) (H : Hp) (a1 d1 a2 d2 kd nl r : Addr) (f f2 : Ks) (ns : List Str) (ys : List Int) (l2 : Lay) (v2 : V) : Prop where
  one : Dk K H a1 d1 f ns
  two : Dk K H a2 d2 f2 ns
  dic : ∃ kvs, H kd = some (.dK kvs) ∧ Kr K H kvs f ns
  nam : SqL K H nl (ns.map V.str)
  cel : SqL K H r (iv ys)
  oth : LY K H l2 v2
  oks : ∀ n l, f n = some l → LOk l
theorem LawS.ex {H H' : Hp} {a1 d1 a2 d2 kd nl r : Addr} {f f2 : Ks} {ns : List Str} {ys : List Int} {l2 : Lay} {v2 : V} (h : LawS K H a1 d1 a2 d2 kd nl r f f2 ns ys l2 v2) (e : Ex H H') : LawS K H' a1 d1 a2 d2 kd nl r f f2 ns ys l2 v2 := by
  obtain ⟨kvs, h1, h2⟩ := h.dic
  exact ⟨h.one.ex e, h.two.ex e, ⟨kvs, e _ _ h1, h2.tk (tk_of e)⟩, ex_l e h.nam, ex_l e h.cel, h.oth.tk (tk_of e), h.oks⟩
theorem str_ix {ns : List Str} {k : Nat} (h : k < ns.length) : atI (ns.map V.str) ((k : Nat) : Int) = some (.str (ns.getD k Str.empty)) := by
  refine atI_nat ?_
  rw [List.getElem?_map, List.getElem?_eq_getElem h, getD_ix h]
  rfl
theorem fn_cal {x : Str} {st : Stmt} {f : Addr} {fd : FuncData} {N ps : List Str} {k : Nat} {sp : Sp} (F : FunD K x x (defArgs st) (defBody st) (defScope st) [] [] f fd) (S : FnScope N ps (defScope st)) (len : ∀ vs H Q E, sp vs H Q E → vs.length = ps.length)
    (hbody : ∀ (cdv : Value) (f : Addr) (A : Around) (outer : List Env) (s : Shared) (H : Hp) (vs : List V) (Q : VK) (E : XK), Room k (A.deeper (envOfC x (defScope st) s.heap.objs.size f cdv)) → sp vs H Q E →
      ∃ t, PSs (cxOf CX0 P w K mg base N x (defScope st) f cdv A outer s H E).nox (defBody st) t ∧ t { nx := fun _ H' => Q .non H', rt := Q } (start N vs) H) : FnOk P w K mg base CX0 (k + 1) f fd ps sp :=
  F.ok S len fun cdv A outer s H vs Q E hr h => by
    obtain ⟨t, h1, h2⟩ := hbody cdv f A outer s H vs Q E hr h
    exact ⟨t, h1.nox, h2⟩
theorem sc_law : FnScope ["_law_script", "_law_desk", "_law_names_here", "_law_kept_here", "_law_second", "_law_other", "_law_cell_here", "_law_row", "_law_new", "_law_layout", "_law_name", "_law_shown"] ["_law_script"] (defScope sLaw) := ⟨rfl, rfl, rfl, by decide +kernel, rfl, by decide +kernel, by decide +kernel⟩
theorem ok_law {fL : Addr} {fdL : FuncData} (F : FunD K "law" "law" (defArgs sLaw) (defBody sLaw) (defScope sLaw) [] [] fL fdL) (T : Tx K w mg) (TD : Td K mg) (G_init : MCal P w K mg base (L2.CX P w) 1 (He.ga K "Desk") "__init__" ["self"] (sp_init K)) (G_say : MCal P w K mg base (L2.CX P w) 7 (He.ga K "Desk") "say" ["self", "row"] (sp_say K)) (G__law_names : Cal P w K mg base CX0 2 "_law_names" ["_law_cell_here", "_law_many"] (sp__law_names K)) (G__law_cell : Cal P w K mg base CX0 1 "_law_cell" ["_law_script", "_law_k"] (sp__law_cell K)) (G__law_small : Cal P w K mg base CX0 2 "_law_small" ["_law_cell_here", "_law_most"] (sp__law_small K)) (G__law_text : Cal P w K mg base CX0 1 "_law_text" ["_law_layout"] (sp__law_text K)) (G__law_deed : Cal P w K mg base CX0 3 "_law_deed" ["_law_kept_here", "_law_names_here", "_law_cell_here"] (sp__law_deed K)) (G__law_no_name : Cal P w K mg base CX0 8 "_law_no_name" ["_law_desk", "_law_row"] (sp__law_no_name K)) : FnOk P w K mg base CX0 9 fL fdL ["_law_script"] (sp_law K) := by
  have S := sc_law
  refine fn_cal F S (fun vs H Q E h => ?_) (fun cdv f A outer s H vs Q E hr h => ?_)
  · obtain ⟨a, xs, rfl, _⟩ := h
    rfl
  · obtain ⟨a, xs, rfl, hS, hx63, q⟩ := h
    have hu := hu_of hr
    obtain ⟨fI, fdI, F_init, m_init, b_init⟩ := G_init.ex
    obtain ⟨fS, fdS, F_say, m_say, b_say⟩ := G_say.ex
    have mk_init : Mk K (He.ga K "Desk") fI := ⟨TD.mkr.makes, m_init.at_, m_init.fn, TD.mkr.kp⟩
    refine ⟨_, (pss_cons (ps_set (i := 1) S.nd rfl (by first | exact Or.inl rfl | exact Or.inr rfl) (pe_make0 mk_init F_init (hr.mono (by decide)) rfl TD.desk b_init .nil passL))
      (pss_cons (ps_set (i := 2) S.nd rfl (by first | exact Or.inl rfl | exact Or.inr rfl) (pe_cc G__law_names (hr.mono (by decide)) (pa_cons (pe_cc G__law_cell (hr.mono (by decide)) (pa_cons (pv 0) (pa_cons pe_int pa_nil))) (pa_cons pe_int pa_nil))))
      (pss_cons (ps_set (i := 3) S.nd rfl (by first | exact Or.inl rfl | exact Or.inr rfl) pe_dnewK)
      (pss_cons (ps_set (i := 4) S.nd rfl (by first | exact Or.inl rfl | exact Or.inr rfl) (pe_make0 mk_init F_init (hr.mono (by decide)) rfl TD.desk b_init .nil passL))
      (pss_cons (ps_set (i := 5) S.nd rfl (by first | exact Or.inl rfl | exact Or.inr rfl) (pe_cc G__law_small (hr.mono (by decide)) (pa_cons (pe_cc G__law_cell (hr.mono (by decide)) (pa_cons (pv 0) (pa_cons pe_int pa_nil))) (pa_cons pe_int pa_nil))))
      (pss_cons (ps_if (pt_cmpR (op_ne) (pe_meth (pv 4) TD.cls m_say F_say (hr.mono (by decide)) b_say .nil passL (pa_cons (pe_op (op_add_str) (pe_op (op_add_str) (pe_op (op_add_str) pe_str (pe_ix (xix_list K) (pv 2) pe_int (fun _ _ => rfl))) pe_str) (pe_cc G__law_text (hr.mono (by decide)) (pa_cons (pv 5) pa_nil))) pa_nil)) pe_str (nomark _))
      (pss_one (ps_ret pe_bl))
      pss_nil)
      (pss_cons (ps_for PassesOwn.never rfl (xpi_list K (pe_op (op_cat) (pe_lst (pa_cons (pe_cc G__law_cell (hr.mono (by decide)) (pa_cons (pv 0) (pa_cons pe_int pa_nil))) pa_nil)) (pe_slice (xsl_list K) (pv 0) (po_some pe_int) (po_some pe_int)))) (pg_name (i := 6) S.nd rfl (by first | exact Or.inl rfl | exact Or.inr rfl))
      (pss_cons (ps_asg (pe_cc G__law_deed (hr.mono (by decide)) (pa_cons (pv 3) (pa_cons (pv 2) (pa_cons (pv 6) pa_nil)))) (pg_tup rfl (pgs_cons (pg_name (i := 7) S.nd rfl (by first | exact Or.inl rfl | exact Or.inr rfl)) (pgs_cons (pg_name (i := 8) S.nd rfl (by first | exact Or.inl rfl | exact Or.inr rfl)) (pgs_cons (pg_name (i := 9) S.nd rfl (by first | exact Or.inl rfl | exact Or.inr rfl)) pgs_nil)))))
      (pss_cons (ps_if (pt_cmpR (op_ne) (pe_meth (pv 1) TD.cls m_say F_say (hr.mono (by decide)) b_say .nil passL (pa_cons (pv 7) pa_nil)) pe_str (nomark _))
      (pss_one (ps_ret pe_bl))
      pss_nil)
      (pss_cons (ps_dput hu (pv 3) (pv 8) (pv 9) rfl)
      (pss_one (ps_for PassesOwn.never rfl (xpi_list K (pe_callB (call_sortedD rfl) rfl T.sorted bt_sorted (pa_cons (pv 3) pa_nil))) (pg_name (i := 10) S.nd rfl (by first | exact Or.inl rfl | exact Or.inr rfl))
      (pss_cons (ps_set (i := 11) S.nd rfl (by first | exact Or.inl rfl | exact Or.inr rfl) (pe_meth (pv 1) TD.cls m_say F_say (hr.mono (by decide)) b_say .nil passL (pa_cons (pe_op (op_add_str) pe_str (pv 10)) pa_nil)))
      (pss_one (ps_if (PW.pt (pw_or (pt_not (pt_val (pe_callB (xisi K) rfl T.isinstance bt_isinstance (pa_cons (pv 11) (pa_cons (pe_bltn (v := .ty "str") rfl T.str bt_str rfl) pa_nil))))) (pw_or1 (pt_cmpR (op_ne) (pv 11) (pe_cc G__law_text (hr.mono (by decide)) (pa_cons (pe_dget hu (pv 3) (pv 10) (fun _ _ => rfl)) pa_nil)) (nomark _)))))
      (pss_one (ps_ret pe_bl))
      pss_nil)))))))))
      (pss_cons (ps_if (PW.pt (pw_or (pt_cmpR (op_ne) (pe_meth (pv 4) TD.cls m_say F_say (hr.mono (by decide)) b_say .nil passL (pa_cons (pe_op (op_add_str) pe_str (pe_ix (xix_list K) (pv 2) pe_int (fun _ _ => rfl))) pa_nil)) (pe_cc G__law_text (hr.mono (by decide)) (pa_cons (pv 5) pa_nil)) (nomark _)) (pw_or1 (pt_not (pt_val (pe_cc G__law_no_name (hr.mono (by decide)) (pa_cons (pv 4) (pa_cons (pe_op (op_add_str) pe_str (pe_ix (xix_list K) (pv 2) pe_int (fun _ _ => rfl))) pa_nil))))))))
      (pss_one (ps_ret pe_bl))
      pss_nil)
      (pss_one (ps_ret (pe_cc G__law_no_name (hr.mono (by decide)) (pa_cons (pe_make0 mk_init F_init (hr.mono (by decide)) rfl TD.desk b_init .nil passL) (pa_cons (pe_op (op_add_str) pe_str (pe_ix (xix_list K) (pv 2) pe_int (fun _ _ => rfl))) pa_nil))))))))))))), ?_⟩
    refine fun a1 dx1 ha1 hdx1 hne1 => ⟨a1, dx1, rfl, upd_same, fun d1 hd1 => ⟨rfl, ?_⟩⟩
    obtain ⟨e1, D1, nd1⟩ := desk_new (K := K) ha1 hdx1 hne1 hd1
    refine ⟨_, rfl, a, xs, 0, rfl, ex_l e1 hS, by omega, fun i0 H1 e01 => ⟨i0, rfl, fun v H2 ns e2 hnl hnm hnd hv => ?_⟩⟩
    obtain ⟨nl, rfl, hN⟩ := hv
    have hn0l : 0 < ns.length := by omega
    have hn1l : 1 < ns.length := by omega
    have hat0 := str_ix hn0l
    have hat1 := str_ix hn1l
    have hn0m : ns.getD 0 Str.empty ∈ ns := by
      rw [getD_ix hn0l]
      exact List.getElem_mem hn0l
    have hn1m : ns.getD 1 Str.empty ∈ ns := by
      rw [getD_ix hn1l]
      exact List.getElem_mem hn1l
    have hn01 : ns.getD 1 Str.empty ≠ ns.getD 0 Str.empty := by
      rw [getD_ix hn0l, getD_ix hn1l]
      exact fun z => List.pairwise_iff_getElem.mp hnd 0 1 hn0l hn1l (by omega) z.symm
    generalize ns.getD 0 Str.empty = n0 at hat0 hn0m hn01
    generalize ns.getD 1 Str.empty = n1 at hat1 hn1m hn01
    have hnm0 := hnm _ hn0m
    have hnm1 := hnm _ hn1m
    have hnl0 := hnm0.most
    have hnl1 := hnm1.most
    have hns5 : ns.length ≤ 5 := by omega
    have e02 := e01.trans e2
    have D1b := (D1 ns).ex e02
    obtain ⟨_, hins1⟩ := D1b.ins
    obtain ⟨_, hdic1, _⟩ := D1b.dic
    refine fun kd hkd => ?_
    have ekd := Ex.new hkd (o := .dK [])
    have ne1 : a1 ≠ kd := ne_at hins1 hkd
    have ne2 : d1 ≠ kd := ne_at hdic1 hkd
    have D1c := D1b.ex ekd
    obtain ⟨_, hins1c⟩ := D1c.ins
    obtain ⟨_, hdic1c, _⟩ := D1c.dic
    refine fun a2 dx2 ha2 hdx2 hne2 => ⟨a2, dx2, rfl, upd_same, fun d2 hd2 => ⟨rfl, ?_⟩⟩
    obtain ⟨e4, D2, nd2⟩ := desk_new (K := K) ha2 hdx2 hne2 hd2
    have ne3 : kd ≠ a2 := ne_at upd_same ha2
    have ne4 : kd ≠ d2 := ne_at upd_same nd2
    have ne5 : a1 ≠ d2 := ne_at hins1c nd2
    have ne6 : d1 ≠ d2 := ne_at hdic1c nd2
    have ne7 : d1 ≠ a2 := ne_at hdic1c ha2
    have hS4 := ex_l (((e1.trans e02).trans ekd).trans e4) hS
    refine ⟨_, rfl, a, xs, 2, rfl, hS4, by omega, fun i2 H5 e5 => ⟨i2, 7, rfl, by decide, by decide, fun v2 H6 l2 e6 hO2 hL2 => ?_⟩⟩
    have e56 := e5.trans e6
    have D2b := (D2 ns).ex e56
    have D1d := (D1c.ex e4).ex e56
    have hN6 := ex_l ((ekd.trans e4).trans e56) hN
    have hk6 := (e4.trans e56) _ _ (upd_same (H := H2) (a := kd) (o := .dK []))
    have hS6 := ex_l e56 hS4
    obtain ⟨dx2b, hins2⟩ := D2b.ins
    obtain ⟨kv2, hdic2, _⟩ := D2b.dic
    have hll2 := lay_len hO2
    refine ⟨_, rfl, a2, dx2b, _, rfl, hins2, rfl, _, rfl, nl, _, 0, _, rfl, rfl, hN6, hat0, _, _, rfl, rfl, len_nat (by show 4 + n0.length ≤ _; omega), _, _, rfl, rfl, len_nat (by rw [append_len]; show 4 + n0.length + 1 ≤ _; omega), _, rfl, l2, v2, rfl, hL2, hO2, fun H7 e7 => ⟨_, _, rfl, rfl, len_nat (by rw [append_len, append_len]; show 4 + n0.length + 1 + (layT l2).length ≤ _; omega), ?_⟩⟩
    refine ⟨a2, d2, _, ns, .put n0 l2, congrArg (fun z => [V.ref a2, V.str z]) (text_put n0 l2), ⟨hnm0, hO2⟩, D2b.ex e7, hns5, .inl ⟨l2, .put hO2, hn0m, fun H8 k8 D2c => ⟨rfl, _, rfl, ifF (by rw [decide_eq_true rfl]; rfl) ?_⟩⟩⟩
    have D1e := (D1d.ex e7).kd k8 ne5 ne6
    have hdic2b := e7 _ _ hdic2
    have hN8 := sql_kd (ex_l e7 hN6) k8 hdic2b
    have hS8 := sql_kd (ex_l e7 hS6) k8 hdic2b
    have hk8 := k8.but _ _ ne4 (e7 _ _ hk6)
    have hL8 := (hL2.tk (tk_of e7)).tk k8.tk
    refine ⟨_, rfl, a, xs, 1, rfl, hS8, by omega, fun i1 H9 e9 => ⟨by show 1 ≤ sizeLine; decide, fun o no => ⟨_, rfl, 2, rfl, 25, rfl, a, _, rfl, ex_l (e9.trans (Ex.new no)) hS8, fun t nt => ?_⟩⟩⟩
    obtain ⟨ys0, hys, hyl⟩ := iv_cut xs (some 2) (some 25)
    rw [hys]
    have eo := Ex.new no (o := .lst [V.int i1])
    have et := Ex.new nt (o := .lst (iv ys0))
    refine ⟨o, t, [.int i1], iv ys0, rfl, rfl, et _ _ upd_same, upd_same, len_nat (by rw [iv_len]; show 1 + ys0.length ≤ _; omega), fun r nr => ?_⟩
    have er := Ex.new nr (o := .lst ([V.int i1] ++ iv ys0))
    have e8r := ((e9.trans eo).trans et).trans er
    have L0 : LawS K _ a1 d1 a2 d2 kd nl r (fun _ => none) (putS (fun _ => none) n0 l2) ns (i1 :: ys0) l2 v2 :=
      ⟨D1e.ex e8r, D2c.ex e8r, ⟨[], e8r _ _ hk8, kr_nil⟩, ex_l e8r hN8, .inl (.inl upd_same), hL8.tk (tk_of e8r), fun _ _ z => nomatch z⟩
    refine ⟨r, rfl, ⟨_, .inl (.inl upd_same)⟩, fr_list (xs := iv (i1 :: ys0)) (fun i σ H' => ∃ f : Ks, ∃ u6 u7 u8 u9 u10 u11 : Option V, σ = [some (.ref a), some (.ref a1), some (.ref nl), some (.ref kd), some (.ref a2), some v2, u6, u7, u8, u9, u10, u11] ∧ LawS K H' a1 d1 a2 d2 kd nl r f (putS (fun _ => none) n0 l2) ns (i1 :: ys0) l2 v2)
      ⟨_, _, _, _, _, _, _, rfl, L0⟩ (fun i σ H' _ ⟨_, _, _, _, _, _, _, _, L⟩ => L.cel) ?_ ?_⟩
    · rintro i σ H' hi ⟨f, u6, u7, u8, u9, u10, u11, rfl, L⟩
      rw [iv_getD hi]
      obtain ⟨kvs, hkdic, hkr⟩ := L.dic
      refine ⟨_, rfl, _, rfl, _, rfl, kd, nl, _, kvs, f, ns, rfl, hkdic, hkr, L.nam, hnl, hnm, L.oks, fun v H1 r' l e hd => ?_⟩
      obtain ⟨hdo, hro, hfi, p, x, rfl, hp, hx⟩ := hd
      have L1 := L.ex e
      refine ⟨p, _, rfl, hp, rfl, _, _, rfl, _, _, rfl, _, _, rfl, rfl, ?_⟩
      obtain ⟨dx, hins⟩ := L1.one.ins
      obtain ⟨kvd, hdicd, _⟩ := L1.one.dic
      refine ⟨_, rfl, a1, dx, _, rfl, hins, rfl, _, rfl, a1, d1, f, ns, r', rfl, hro, L1.one, hns5, .inl ⟨l, hdo, hfi, fun H2 kd2 dk2 => ⟨rfl, _, rfl, ifF (by rw [decide_eq_true rfl]; rfl) ?_⟩⟩⟩
      obtain ⟨kvs1, hk1, hr1⟩ := L1.dic
      have hk2 := kd2.but _ _ (Ne.symm ne2) hk1
      have hr2 := hr1.tk kd2.tk
      have hkl2 := hr2.len
      refine ⟨_, rfl, _, rfl, _, rfl, kd, _, rfl, DPut.k (k := (Sum.inr r'.first : Key)) hk2 (Nat.lt_of_lt_of_le (show kvs1.length < 100 by omega) (by decide)), ?_⟩
      have kw : KD kd H2 (upd H2 kd (.dK (putK kvs1 (Sum.inr r'.first : Key) x))) := KD.dK hk2
      have hr3 := hr2.put hfi (tk_dK hk2) ((hx.tk kd2.tk).tk (tk_dK hk2 (u := .dK (putK kvs1 (Sum.inr r'.first : Key) x))))
      have L3 : LawS K (upd H2 kd (.dK (putK kvs1 (Sum.inr r'.first : Key) x))) a1 d1 a2 d2 kd nl r (putS f r'.first l) (putS (fun _ => none) n0 l2) ns (i1 :: ys0) l2 v2 :=
        ⟨dk2.kd kw ne1 ne2, (L1.two.kd kd2 (Ne.symm ne7) (Ne.symm ne6)).kd kw (Ne.symm ne3) (Ne.symm ne4), ⟨_, upd_same, hr3⟩, sql_kd (sql_kd L1.nam kd2 hdicd) kw hk2, sql_kd (sql_kd L1.cel kd2 hdicd) kw hk2, (L1.oth.tk kd2.tk).tk kw.tk, fun n l' z => by
          unfold putS at z
          split at z
          · cases z
            exact hdo.ok
          · exact L.oks n l' z⟩
      obtain ⟨ks, hks, hknd, hkin⟩ := hr3.keys
      have hk5 : ks.length ≤ ns.length := str_nodup_len ks ns hknd hkin
      refine ⟨_, rfl, kd, _, ks, rfl, .inl upd_same, hks, by omega, fun ys p' hperm _ hp' => ?_⟩
      have ep := Ex.new hp' (o := .lst (ys.map V.str))
      have L4 := L3.ex ep
      refine ⟨p', rfl, ⟨_, .inl (.inl upd_same)⟩, fr_list (xs := ys.map V.str) (fun j σ H' => ∃ (v10 v11 : Option V), σ = [some (.ref a), some (.ref a1), some (.ref nl), some (.ref kd), some (.ref a2), some v2, some (.int ((i1 :: ys0).getD i 0)), some (.str r'.text), some (.str r'.first), some x, v10, v11] ∧ Ex (upd (upd H2 kd (.dK (putK kvs1 (Sum.inr r'.first : Key) x))) p' (.lst (ys.map V.str))) H')
        ⟨_, _, rfl, Ex.refl _⟩ (fun j σ H' _ ⟨_, _, _, e⟩ => ex_l e (.inl (.inl upd_same))) ?_ ?_⟩
      · rintro j σ H' hj ⟨v10, v11, rfl, e5⟩
        rw [List.length_map] at hj
        have hgj : (ys.map V.str).getD j .non = .str (ys.getD j Str.empty) := by
          rw [List.getD_eq_getElem?_getD, List.getElem?_map, List.getElem?_eq_getElem hj, getD_ix hj]
          rfl
        rw [hgj]
        have hmem : ys.getD j Str.empty ∈ ks := by
          rw [getD_ix hj]
          exact hperm.subset (List.getElem_mem hj)
        generalize ys.getD j Str.empty = nm at hmem ⊢
        have hnn := hnm _ (hkin _ hmem)
        have hnnl := hnn.most
        have hkey : (Sum.inr nm : Key) ∈ (putK kvs1 (Sum.inr r'.first : Key) x).map (·.1) := by
          rw [hks]
          exact List.mem_map.mpr ⟨_, hmem, rfl⟩
        obtain ⟨l3, w3, hf3, hv3, hL3⟩ := kr_key hr3 hkey
        have hO3 := L3.oks _ _ hf3
        have L5 := L4.ex e5
        obtain ⟨dx5, hins5⟩ := L5.one.ins
        refine ⟨_, rfl, a1, dx5, _, rfl, hins5, rfl, _, rfl, _, _, rfl, rfl, len_nat (by show 5 + nm.length ≤ _; omega), a1, d1, _, ns, .tell nm, congrArg (fun z => [V.ref a1, V.str z]) (text_tell nm), hnn, L5.one, hns5, .inr (.inl ⟨nm, l3, rfl, hf3, hO3, fun H6 e6 => ?_⟩)⟩
        have e56 := e5.trans e6
        have hdk6 := (ep.trans e56) _ _ (upd_same (H := H2) (a := kd) (o := .dK (putK kvs1 (Sum.inr r'.first : Key) x)))
        refine ⟨_, rfl, .str _, .ty "str", _, _, _, rfl, .ty _, .base (.str _), kit_ss, _, rfl, iteF ⟨_, rfl, _, rfl, _, rfl, kd, w3, rfl, by rw [← hv3]; exact DGet.k (k := (Sum.inr nm : Key)) hdk6, l3, w3, rfl, (hL3.tk (tk_of (ep.trans e56))), hO3, fun H7 e7 => ⟨rfl, _, rfl, ifF (by rw [decide_eq_true rfl]; rfl) ⟨_, _, rfl, e56.trans e7⟩⟩⟩⟩
      · rintro σ H' ⟨v10, v11, rfl, e5⟩
        exact ⟨_, _, _, _, _, _, _, rfl, L4.ex e5⟩
    · rintro σ H' ⟨f, u6, u7, u8, u9, u10, u11, rfl, L⟩
      obtain ⟨dx5, hins5⟩ := L.two.ins
      have hf2 : putS (fun _ => none) n0 l2 n0 = some l2 := if_pos rfl
      have hf3 : putS (fun _ => none) n0 l2 n1 = none := if_neg hn01
      refine ⟨_, rfl, a2, dx5, _, rfl, hins5, rfl, _, rfl, nl, _, 0, _, rfl, rfl, L.nam, hat0, _, _, rfl, rfl, len_nat (by show 5 + n0.length ≤ _; omega), a2, d2, _, ns, .tell n0, congrArg (fun z => [V.ref a2, V.str z]) (text_tell n0), hnm0, L.two, hns5, .inr (.inl ⟨n0, l2, rfl, hf2, hO2, fun H6 e6 => ?_⟩)⟩
      have L6 := L.ex e6
      refine ⟨_, rfl, l2, v2, rfl, L6.oth, hO2, fun H7 e7 => ⟨rfl, _, rfl, ifF (by rw [decide_eq_true rfl]; rfl) ?_⟩⟩
      have L7 := L6.ex e7
      refine ⟨_, rfl, _, rfl, nl, _, 1, _, rfl, rfl, L7.nam, hat1, _, _, rfl, rfl, len_nat (by show 5 + n1.length ≤ _; omega), a2, d2, _, ns, n1, congrArg (fun z => [V.ref a2, V.str z]) (text_tell n1), hnm1, L7.two, hns5, hf3, fun H8 e8 => ⟨true, rfl, ifF (by decide) ?_⟩⟩
      have L8 := L7.ex e8
      refine fun a3 dx3 ha3 hdx3 hne3 => ⟨a3, dx3, rfl, upd_same, fun d3 hd3 => ⟨rfl, ?_⟩⟩
      obtain ⟨e9, D3, nd3⟩ := desk_new (K := K) ha3 hdx3 hne3 hd3
      refine ⟨_, rfl, nl, _, 0, _, rfl, rfl, ex_l e9 L8.nam, hat0, _, _, rfl, rfl, len_nat (by show 5 + n0.length ≤ _; omega), a3, d3, _, ns, n0, congrArg (fun z => [V.ref a3, V.str z]) (text_tell n0), hnm0, D3 ns, hns5, rfl, fun H10 e10 => q H10⟩
end
end EM
set_option Elab.async false
set_option linter.all false
set_option maxRecDepth 100000
set_option maxHeartbeats 2000000
namespace EM
open PySem PySem.Spec PyProof.Rows L2 Evl
section
variable {P : Program} {w : World} {K : PySem.W.Frag} {h : Heap} {mg : Str → Option Value}
/-! ### the head's facts -/
theorem tx_of (X : K.In h) (G : h.Ns mainGlobals mg) (c : He.SaysT fa fn ts w K) : Tx K w mg where
  len := (He.free_ok X G (c.d.fact 45 (f := .free "len") rfl))
  range := (He.free_ok X G (c.d.fact 46 (f := .free "range") rfl))
  tuple := (He.free_ok X G (c.d.fact 47 (f := .free "tuple") rfl))
  list := (He.free_ok X G (c.d.fact 48 (f := .free "list") rfl))
  sorted := (He.free_ok X G (c.d.fact 49 (f := .free "sorted") rfl))
  set := (He.free_ok X G (c.d.fact 50 (f := .free "set") rfl))
  all := (He.free_ok X G (c.d.fact 51 (f := .free "all") rfl))
  isinstance := (He.free_ok X G (c.d.fact 52 (f := .free "isinstance") rfl))
  int := (He.free_ok X G (c.d.fact 53 (f := .free "int") rfl))
  str := (He.free_ok X G (c.d.fact 54 (f := .free "str") rfl))
  bool := (He.free_ok X G (c.d.fact 55 (f := .free "bool") rfl))
  enumerate := (He.free_ok X G (c.d.fact 56 (f := .free "enumerate") rfl))
  zip := (He.free_ok X G (c.d.fact 57 (f := .free "zip") rfl))
  abs := (He.free_ok X G (c.d.fact 58 (f := .free "abs") rfl))
  MOST_POINTS_layouts := He.int_ok X G (c.d.fact 59 (f := .int "MOST_POINTS_layouts" 60) rfl)
  MOST_BLOCKS := He.int_ok X G (c.d.fact 60 (f := .int "MOST_BLOCKS" 200) rfl)
  MOST_FIGURES_layouttexts := He.int_ok X G (c.d.fact 61 (f := .int "MOST_FIGURES_layouttexts" 4) rfl)
  MOST_FIGURES_deskwords := He.int_ok X G (c.d.fact 62 (f := .int "MOST_FIGURES_deskwords" 6) rfl)
  FIGURES := He.str_ok X G (c.d.fact 63 (f := .str "FIGURES" "0123456789") rfl)
  LETTERS := He.str_ok X G (c.d.fact 64 (f := .str "LETTERS" "abcdefghijklmnopqrstuvwxyz") rfl)
theorem td_of (X : K.In h) (G : h.Ns mainGlobals mg) (c : He.SaysT fa fn ts w K) (e : ex K = true) : Td K mg where
  desk := (He.glo_ok X G (c.d.fact 41 (f := .glo "Desk") rfl))
  cls := He.cls_ok (c.d.fact 65 (f := .cls "Desk") rfl)
  noat := He.noat_ok (c.d.fact 67 (f := .noat "Desk" "kept") rfl)
  noname := (He.glo_ok X G (c.d.fact 42 (f := .glo "NoName") rfl))
  exc := He.exc_ok (c.d.fact 72 (f := .exc "NoName") rfl)
  exm := He.exm_ok (c.d.fact 73 (f := .exm "NoName" "NoName" true) rfl)
  mkr := He.mkr_ok (c.d.fact 66 (f := .mkr "Desk") rfl)
  made := ⟨_, (He.glo_ok X G (c.d.fact 43 (f := .glo "MADE") rfl)), fun H => He.tupB_ok (Bool.and_eq_true_iff.mp e).1 H⟩
theorem tf_of (X : K.In h) (G : h.Ns mainGlobals mg) (c : He.SaysT fa fn ts w K) (e : ex K = true) : Tf K w mg := by
  obtain ⟨es, n, D⟩ := c.tab 0 rfl
  have hv := (Bool.and_eq_true_iff.mp e).2
  refine ⟨_, es, n, (He.glo_ok X G (c.d.fact 44 (f := .glo "FORMS") rfl)), D, fun r => ?_⟩
  cases r with
  | put n l => exact He.valsB_ok hv (q := ("put", .str "wt")) (.head _)
  | tell n => exact He.valsB_ok hv (q := ("show", .str "w")) (.tail _ (.head _))
  | one du n m => cases du with
    | false => exact He.valsB_ok hv (q := ("complement", .str "ww")) (.tail _ (.tail _ (.tail _ (.head _))))
    | true => exact He.valsB_ok hv (q := ("dual", .str "ww")) (.tail _ (.tail _ (.tail _ (.tail _ (.head _)))))
  | pt off n m p => cases off with
    | false => exact He.valsB_ok hv (q := ("at", .str "wwn")) (.tail _ (.tail _ (.tail _ (.tail _ (.tail _ (.head _))))))
    | true => exact He.valsB_ok hv (q := ("off", .str "wwn")) (.tail _ (.tail _ (.tail _ (.tail _ (.tail _ (.tail _ (.head _)))))))
  | turn n k bs => exact He.valsB_ok hv (q := ("turned", .str "wnt")) (.tail _ (.tail _ (.tail _ (.tail _ (.tail _ (.tail _ (.tail _ (.head _)))))))) 
theorem facts {f : Addr} (X : K.In h) (G : h.Ns mainGlobals mg) (hfa : mg ("law" : Str) = some (.ref f)) (c : He.SaysT fa fn ts w K) (e : ex K = true) :
    ∃ fd : FuncData, (∀ (s : Shared) (v : Value), BindsTo s fd ⟨[v], []⟩ [("_law_script", v)]) ∧ ∀ base : Heap, K.In base → base.Ns mainGlobals mg → FnOk P w K mg base CX0 9 f fd ["_law_script"] (sp_law K) := by
  have T := tx_of X G c
  have TD := td_of X G c e
  have TF := tf_of X G c e
  have F_is_whole_layouts : At K mg "is_whole_layouts" "is_whole" sIsWholeL := by
    obtain ⟨fd, F⟩ := c.d.def_ 0 (d := dIsWholeL) rfl
    exact ⟨_, fd, F, (He.glo_ok X G (c.d.fact 0 (f := .glo "is_whole_layouts") rfl))⟩
  have F_is_whole_numbers : At K mg "is_whole_numbers" "is_whole" sIsWholeN := by
    obtain ⟨fd, F⟩ := c.d.def_ 1 (d := dIsWholeN) rfl
    exact ⟨_, fd, F, (He.glo_ok X G (c.d.fact 1 (f := .glo "is_whole_numbers") rfl))⟩
  have F_is_point : At K mg "is_point" "is_point" sIsPoint := by
    obtain ⟨fd, F⟩ := c.d.def_ 2 (d := dIsPoint) rfl
    exact ⟨_, fd, F, (He.glo_ok X G (c.d.fact 2 (f := .glo "is_point") rfl))⟩
  have F_is_below : At K mg "is_below" "is_below" sIsBelow := by
    obtain ⟨fd, F⟩ := c.d.def_ 8 (d := dIsBelow) rfl
    exact ⟨_, fd, F, (He.glo_ok X G (c.d.fact 8 (f := .glo "is_below") rfl))⟩
  have F_is_block : At K mg "is_block" "is_block" sIsBlock := by
    obtain ⟨fd, F⟩ := c.d.def_ 3 (d := dIsBlock) rfl
    exact ⟨_, fd, F, (He.glo_ok X G (c.d.fact 3 (f := .glo "is_block") rfl))⟩
  have F_layout_of : At K mg "layout_of" "layout_of" sLayoutOf := by
    obtain ⟨fd, F⟩ := c.d.def_ 4 (d := dLayoutOf) rfl
    exact ⟨_, fd, F, (He.glo_ok X G (c.d.fact 4 (f := .glo "layout_of") rfl))⟩
  have F_check_bases : At K mg "check_bases" "check_bases" sCheckBases := by
    obtain ⟨fd, F⟩ := c.d.def_ 5 (d := dCheckBases) rfl
    exact ⟨_, fd, F, (He.glo_ok X G (c.d.fact 5 (f := .glo "check_bases") rfl))⟩
  have F_turned : At K mg "turned" "turned" sTurned := by
    obtain ⟨fd, F⟩ := c.d.def_ 6 (d := dTurned) rfl
    exact ⟨_, fd, F, (He.glo_ok X G (c.d.fact 6 (f := .glo "turned") rfl))⟩
  have F_developed : At K mg "developed" "developed" sDeveloped := by
    obtain ⟨fd, F⟩ := c.d.def_ 7 (d := dDeveloped) rfl
    exact ⟨_, fd, F, (He.glo_ok X G (c.d.fact 7 (f := .glo "developed") rfl))⟩
  have F_complement : At K mg "complement" "complement" sComplement := by
    obtain ⟨fd, F⟩ := c.d.def_ 9 (d := dComplement) rfl
    exact ⟨_, fd, F, (He.glo_ok X G (c.d.fact 9 (f := .glo "complement") rfl))⟩
  have F_dual : At K mg "dual" "dual" sDual := by
    obtain ⟨fd, F⟩ := c.d.def_ 10 (d := dDual) rfl
    exact ⟨_, fd, F, (He.glo_ok X G (c.d.fact 10 (f := .glo "dual") rfl))⟩
  have F_kept_to : At K mg "kept_to" "kept_to" sKeptTo := by
    obtain ⟨fd, F⟩ := c.d.def_ 11 (d := dKeptTo) rfl
    exact ⟨_, fd, F, (He.glo_ok X G (c.d.fact 11 (f := .glo "kept_to") rfl))⟩
  have F_rest_of : At K mg "rest_of" "rest_of" sRestOf := by
    obtain ⟨fd, F⟩ := c.d.def_ 12 (d := dRestOf) rfl
    exact ⟨_, fd, F, (He.glo_ok X G (c.d.fact 12 (f := .glo "rest_of") rfl))⟩
  have F_at_point : At K mg "at_point" "at_point" sAtPoint := by
    obtain ⟨fd, F⟩ := c.d.def_ 13 (d := dAtPoint) rfl
    exact ⟨_, fd, F, (He.glo_ok X G (c.d.fact 13 (f := .glo "at_point") rfl))⟩
  have F_off_point : At K mg "off_point" "off_point" sOffPoint := by
    obtain ⟨fd, F⟩ := c.d.def_ 14 (d := dOffPoint) rfl
    exact ⟨_, fd, F, (He.glo_ok X G (c.d.fact 14 (f := .glo "off_point") rfl))⟩
  have F_number_in : At K mg "number_in" "number_in" sNumberIn := by
    obtain ⟨fd, F⟩ := c.d.def_ 15 (d := dNumberIn) rfl
    exact ⟨_, fd, F, (He.glo_ok X G (c.d.fact 15 (f := .glo "number_in") rfl))⟩
  have F_block_in : At K mg "block_in" "block_in" sBlockIn := by
    obtain ⟨fd, F⟩ := c.d.def_ 16 (d := dBlockIn) rfl
    exact ⟨_, fd, F, (He.glo_ok X G (c.d.fact 16 (f := .glo "block_in") rfl))⟩
  have F_blocks_in : At K mg "blocks_in" "blocks_in" sBlocksIn := by
    obtain ⟨fd, F⟩ := c.d.def_ 17 (d := dBlocksIn) rfl
    exact ⟨_, fd, F, (He.glo_ok X G (c.d.fact 17 (f := .glo "blocks_in") rfl))⟩
  have F_show_block : At K mg "show_block" "show_block" sShowBlock := by
    obtain ⟨fd, F⟩ := c.d.def_ 18 (d := dShowBlock) rfl
    exact ⟨_, fd, F, (He.glo_ok X G (c.d.fact 18 (f := .glo "show_block") rfl))⟩
  have F_show_layout : At K mg "show_layout" "show_layout" sShowLayout := by
    obtain ⟨fd, F⟩ := c.d.def_ 19 (d := dShowLayout) rfl
    exact ⟨_, fd, F, (He.glo_ok X G (c.d.fact 19 (f := .glo "show_layout") rfl))⟩
  have F_read_layout : At K mg "read_layout" "read_layout" sReadLayout := by
    obtain ⟨fd, F⟩ := c.d.def_ 20 (d := dReadLayout) rfl
    exact ⟨_, fd, F, (He.glo_ok X G (c.d.fact 20 (f := .glo "read_layout") rfl))⟩
  have F_is_name : At K mg "is_name" "is_name" sIsName := by
    obtain ⟨fd, F⟩ := c.d.def_ 21 (d := dIsName) rfl
    exact ⟨_, fd, F, (He.glo_ok X G (c.d.fact 21 (f := .glo "is_name") rfl))⟩
  have F_thing_in : At K mg "thing_in" "thing_in" sThingIn := by
    obtain ⟨fd, F⟩ := c.d.def_ 22 (d := dThingIn) rfl
    exact ⟨_, fd, F, (He.glo_ok X G (c.d.fact 22 (f := .glo "thing_in") rfl))⟩
  have F_kinds_of : At K mg "kinds_of" "kinds_of" sKindsOf := by
    obtain ⟨fd, F⟩ := c.d.def_ 23 (d := dKindsOf) rfl
    exact ⟨_, fd, F, (He.glo_ok X G (c.d.fact 23 (f := .glo "kinds_of") rfl))⟩
  have F_told_in : At K mg "told_in" "told_in" sToldIn := by
    obtain ⟨fd, F⟩ := c.d.def_ 24 (d := dToldIn) rfl
    exact ⟨_, fd, F, (He.glo_ok X G (c.d.fact 24 (f := .glo "told_in") rfl))⟩
  have F__law_cell : At K mg "_law_cell" "_law_cell" sLCell := by
    obtain ⟨fd, F⟩ := c.d.def_ 25 (d := dLCell) rfl
    exact ⟨_, fd, F, (He.glo_ok X G (c.d.fact 25 (f := .glo "_law_cell") rfl))⟩
  have F__law_numbers : At K mg "_law_numbers" "_law_numbers" sLNumbers := by
    obtain ⟨fd, F⟩ := c.d.def_ 26 (d := dLNumbers) rfl
    exact ⟨_, fd, F, (He.glo_ok X G (c.d.fact 26 (f := .glo "_law_numbers") rfl))⟩
  have F__law_mask : At K mg "_law_mask" "_law_mask" sLMask := by
    obtain ⟨fd, F⟩ := c.d.def_ 27 (d := dLMask) rfl
    exact ⟨_, fd, F, (He.glo_ok X G (c.d.fact 27 (f := .glo "_law_mask") rfl))⟩
  have F__law_of_size : At K mg "_law_of_size" "_law_of_size" sLOfSize := by
    obtain ⟨fd, F⟩ := c.d.def_ 28 (d := dLOfSize) rfl
    exact ⟨_, fd, F, (He.glo_ok X G (c.d.fact 28 (f := .glo "_law_of_size") rfl))⟩
  have F__law_turned_base : At K mg "_law_turned_base" "_law_turned_base" sLTurnedBase := by
    obtain ⟨fd, F⟩ := c.d.def_ 29 (d := dLTurnedBase) rfl
    exact ⟨_, fd, F, (He.glo_ok X G (c.d.fact 29 (f := .glo "_law_turned_base") rfl))⟩
  have F__law_turned_some : At K mg "_law_turned_some" "_law_turned_some" sLTurnedSome := by
    obtain ⟨fd, F⟩ := c.d.def_ 38 (d := dLTurnedSome) rfl
    exact ⟨_, fd, F, (He.glo_ok X G (c.d.fact 38 (f := .glo "_law_turned_some") rfl))⟩
  have F__law_text : At K mg "_law_text" "_law_text" sLText := by
    obtain ⟨fd, F⟩ := c.d.def_ 30 (d := dLText) rfl
    exact ⟨_, fd, F, (He.glo_ok X G (c.d.fact 30 (f := .glo "_law_text") rfl))⟩
  have F__law_bases_text : At K mg "_law_bases_text" "_law_bases_text" sLBasesText := by
    obtain ⟨fd, F⟩ := c.d.def_ 35 (d := dLBasesText) rfl
    exact ⟨_, fd, F, (He.glo_ok X G (c.d.fact 35 (f := .glo "_law_bases_text") rfl))⟩
  have F__law_developed : At K mg "_law_developed" "_law_developed" sLDeveloped := by
    obtain ⟨fd, F⟩ := c.d.def_ 36 (d := dLDeveloped) rfl
    exact ⟨_, fd, F, (He.glo_ok X G (c.d.fact 36 (f := .glo "_law_developed") rfl))⟩
  have F__law_kept : At K mg "_law_kept" "_law_kept" sLKept := by
    obtain ⟨fd, F⟩ := c.d.def_ 33 (d := dLKept) rfl
    exact ⟨_, fd, F, (He.glo_ok X G (c.d.fact 33 (f := .glo "_law_kept") rfl))⟩
  have F__law_made : At K mg "_law_made" "_law_made" sLMade := by
    obtain ⟨fd, F⟩ := c.d.def_ 34 (d := dLMade) rfl
    exact ⟨_, fd, F, (He.glo_ok X G (c.d.fact 34 (f := .glo "_law_made") rfl))⟩
  have F__law_names : At K mg "_law_names" "_law_names" sLNames := by
    obtain ⟨fd, F⟩ := c.d.def_ 31 (d := dLNames) rfl
    exact ⟨_, fd, F, (He.glo_ok X G (c.d.fact 31 (f := .glo "_law_names") rfl))⟩
  have F__law_small : At K mg "_law_small" "_law_small" sLSmall := by
    obtain ⟨fd, F⟩ := c.d.def_ 32 (d := dLSmall) rfl
    exact ⟨_, fd, F, (He.glo_ok X G (c.d.fact 32 (f := .glo "_law_small") rfl))⟩
  have F__law_deed : At K mg "_law_deed" "_law_deed" sLDeed := by
    obtain ⟨fd, F⟩ := c.d.def_ 37 (d := dLDeed) rfl
    exact ⟨_, fd, F, (He.glo_ok X G (c.d.fact 37 (f := .glo "_law_deed") rfl))⟩
  have F__law_no_name : At K mg "_law_no_name" "_law_no_name" sLNoName := by
    obtain ⟨fd, F⟩ := c.d.def_ 39 (d := dLNoName) rfl
    exact ⟨_, fd, F, (He.glo_ok X G (c.d.fact 39 (f := .glo "_law_no_name") rfl))⟩
  have M_init : MAt K (He.ga K "Desk") "__init__" "Desk.__init__" sDInit := by
    obtain ⟨fd, F⟩ := c.d.def_ 41 (d := dDInit) rfl
    exact ⟨_, fd, F, ⟨(He.mkr_ok (c.d.fact 66 (f := .mkr "Desk") rfl)).init, (He.mkr_ok (c.d.fact 66 (f := .mkr "Desk") rfl)).fn, F.kp⟩⟩
  have M_named : MAt K (He.ga K "Desk") "named" "Desk.named" sDNamed := by
    obtain ⟨fd, F⟩ := c.d.def_ 42 (d := dDNamed) rfl
    exact ⟨_, fd, F, He.meth_ok (c.d.fact 68 (f := .meth "Desk" "named") rfl)⟩
  have M_asked : MAt K (He.ga K "Desk") "asked" "Desk.asked" sDAsked := by
    obtain ⟨fd, F⟩ := c.d.def_ 45 (d := dDAsked) rfl
    exact ⟨_, fd, F, He.meth_ok (c.d.fact 71 (f := .meth "Desk" "asked") rfl)⟩
  have M_made : MAt K (He.ga K "Desk") "made" "Desk.made" sDMade := by
    obtain ⟨fd, F⟩ := c.d.def_ 44 (d := dDMade) rfl
    exact ⟨_, fd, F, He.meth_ok (c.d.fact 70 (f := .meth "Desk" "made") rfl)⟩
  have M_say : MAt K (He.ga K "Desk") "say" "Desk.say" sDSay := by
    obtain ⟨fd, F⟩ := c.d.def_ 43 (d := dDSay) rfl
    exact ⟨_, fd, F, He.meth_ok (c.d.fact 69 (f := .meth "Desk" "say") rfl)⟩
  obtain ⟨fd, F⟩ := c.d.def_ 40 (d := dLaw) rfl
  have ef := hfa.symm.trans (He.glo_ok X G (c.d.fact 40 (f := .glo "law") rfl))
  cases ef
  have b := FunD.bindsA (ps := ["_law_script"]) F fun _ _ _ _ _ _ us hl => match us, hl with | [_], _ => rfl
  refine ⟨fd, fun s v => b s [v] rfl, fun base _ _ => ?_⟩
  have G_is_whole_layouts := ok_is_whole_layouts (P := P) (w := w) (base := base) F_is_whole_layouts T
  have G_is_whole_numbers := ok_is_whole_numbers (P := P) (w := w) (base := base) F_is_whole_numbers T
  have G_is_point := ok_is_point (P := P) (w := w) (base := base) F_is_point T G_is_whole_layouts
  have G_is_below := ok_is_below (P := P) (w := w) (base := base) F_is_below T
  have G_is_block := ok_is_block (P := P) (w := w) (base := base) F_is_block T G_is_point
  have G_layout_of := ok_layout_of (P := P) (w := w) (base := base) F_layout_of T G_is_whole_layouts G_is_block
  have G_check_bases := ok_check_bases (P := P) (w := w) (base := base) F_check_bases T G_is_whole_numbers G_is_block
  have G_turned := ok_turned (P := P) (w := w) (base := base) F_turned T
  have G_developed := ok_developed (P := P) (w := w) (base := base) F_developed T G_check_bases G_turned
  have G_complement := ok_complement (P := P) (w := w) (base := base) F_complement T
  have G_dual := ok_dual (P := P) (w := w) (base := base) F_dual T
  have G_kept_to := ok_kept_to (P := P) (w := w) (base := base) F_kept_to T
  have G_rest_of := ok_rest_of (P := P) (w := w) (base := base) F_rest_of T G_is_below
  have G_at_point := ok_at_point (P := P) (w := w) (base := base) F_at_point T G_rest_of G_kept_to
  have G_off_point := ok_off_point (P := P) (w := w) (base := base) F_off_point T G_rest_of G_kept_to
  have G_number_in := ok_number_in (P := P) (w := w) (base := base) F_number_in T
  have G_block_in := ok_block_in (P := P) (w := w) (base := base) F_block_in T G_number_in
  have G_blocks_in := ok_blocks_in (P := P) (w := w) (base := base) F_blocks_in T G_block_in
  have G_show_block := ok_show_block (P := P) (w := w) (base := base) F_show_block T
  have G_show_layout := ok_show_layout (P := P) (w := w) (base := base) F_show_layout T G_show_block
  have G_read_layout := ok_read_layout (P := P) (w := w) (base := base) F_read_layout T G_layout_of G_blocks_in G_number_in
  have G_is_name := ok_is_name (P := P) (w := w) (base := base) F_is_name T
  have G_thing_in := ok_thing_in (P := P) (w := w) (base := base) F_thing_in T G_number_in G_is_name
  have G_kinds_of := ok_kinds_of (P := P) (w := w) (base := base) F_kinds_of T TF
  have G_told_in := ok_told_in (P := P) (w := w) (base := base) F_told_in T G_kinds_of G_thing_in
  have G__law_cell := ok__law_cell (P := P) (w := w) (base := base) F__law_cell T
  have G__law_numbers := ok__law_numbers (P := P) (w := w) (base := base) F__law_numbers T
  have G__law_mask := ok__law_mask (P := P) (w := w) (base := base) F__law_mask T
  have G__law_of_size := ok__law_of_size (P := P) (w := w) (base := base) F__law_of_size T
  have G__law_turned_base := ok__law_turned_base (P := P) (w := w) (base := base) F__law_turned_base T
  have G__law_turned_some := ok__law_turned_some (P := P) (w := w) (base := base) F__law_turned_some T
  have G__law_text := ok__law_text (P := P) (w := w) (base := base) F__law_text T
  have G__law_bases_text := ok__law_bases_text (P := P) (w := w) (base := base) F__law_bases_text T
  have G__law_developed := ok__law_developed (P := P) (w := w) (base := base) F__law_developed T
  have G__law_kept := ok__law_kept (P := P) (w := w) (base := base) F__law_kept T
  have G__law_made := ok__law_made (P := P) (w := w) (base := base) F__law_made T G__law_kept
  have G__law_names := ok__law_names (P := P) (w := w) (base := base) F__law_names T G__law_numbers
  have G__law_small := ok__law_small (P := P) (w := w) (base := base) F__law_small T G__law_numbers G__law_mask G__law_of_size G__law_turned_base
  have G__law_deed := ok__law_deed (P := P) (w := w) (base := base) F__law_deed T G__law_numbers G__law_small G__law_text G__law_turned_some G__law_mask G__law_bases_text G__law_developed G__law_made
  have G_init := ok_init (P := P) (w := w) (base := base) M_init TD
  have G_named := ok_named (P := P) (w := w) (base := base) M_named TD
  have G_asked := ok_asked (P := P) (w := w) (base := base) M_asked G_show_layout
  have G_made := ok_made (P := P) (w := w) (base := base) M_made TD G_named G_read_layout G_developed G_blocks_in G_complement G_dual G_at_point G_off_point
  have G_say := ok_say (P := P) (w := w) (base := base) M_say T TD G_told_in G_named G_made G_asked
  have G__law_no_name := ok__law_no_name (P := P) (w := w) (base := base) F__law_no_name TD G_say
  exact ok_law F T TD G_init G_say G__law_names G__law_cell G__law_small G__law_text G__law_deed G__law_no_name
end
end EM
open PySem PySem.W PySem.Calls PyProof.Rows
theorem PySem.Challenge.cw_evenmeet_k74_desk_layouts_told_holds : PySem.Challenge.rw_evenmeet_k74_desk_layouts_told.Holds := by
  w_on; o_law
  refine HandSHeadRun.head_any (r := OpenLaw.row PySem.Challenge.rw_evenmeet_k74_desk_layouts_told) (q := view (OpenLaw.row PySem.Challenge.rw_evenmeet_k74_desk_layouts_told).prog [164]) (H := EM.hk) (ob := EM.ob) (M := 9000) (loose := EM.names) (d := HandSHeadRun.topDef (OpenLaw.row PySem.Challenge.rw_evenmeet_k74_desk_layouts_told).prog 164) (kwd := []) EM.ob_eq
    (by kernel_rfl) (fun s => by kernel_rfl) EM.run (by kernel_rfl) (by kernel_rfl) (by kernel_rfl) (by rfl) (by first | assumption | decide +kernel) (by decide +kernel) ⟨rfl, rfl, rfl, rfl, rfl, by decide +kernel⟩ ?hw ?hc
  case hw => w_witness2
  case hc =>
    refine L2.walk_ofE (l := PySem.Challenge.rw_evenmeet_k74_desk_layouts_told) (n := 63) (k := 9) (x := "_law_script") (CX := L2.CX0) rfl (by decide) (by kernel_rfl) ⟨rfl, by decide, by decide⟩ ?F (fun _ _ _ _ z => z)
    intro w mg fa h Y G hmg0
    obtain ⟨K, KX, c, e⟩ := Y
    have hmg : mg ("law" : PySem.Str) = some (.ref fa) := by
      have e : (HandSHeadRun.topDef (OpenLaw.row PySem.Challenge.rw_evenmeet_k74_desk_layouts_told).prog 164).name = ("law" : PySem.Str) := by kernel_rfl
      rw [← e]
      exact hmg0
    obtain ⟨fd, hb, hF⟩ := EM.facts (P := (PySem.Challenge.rw_evenmeet_k74_desk_layouts_told).prog) (w := w) KX G hmg c e
    exact ⟨K, fd, EM.sp_law K, KX, hb, fun H a ns hl _ hS => ⟨a, ns, rfl, hS, hl, fun _ => rfl⟩, hF⟩
