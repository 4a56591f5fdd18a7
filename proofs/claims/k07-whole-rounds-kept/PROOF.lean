import PyProof.Rows.All
import Wide.All
import OpenK.AllK
import Wide.FinOn
import HandS.ForMost
import HandS.HeadHook2
import PySem.Challenge.RW_thirstwise_k07_whole_rounds_kept
import KE.KStateDown
import KE.KIsAll
import Lean
import HandS.Exc
import HandS.ExcOwn
import HandS.ExcInit
import HandS.ExcField
import HandS.ExcIs
import HandS.IsInst
import HandS.ClsMeth
import HandS.Defaults
import HandS.Head0
import HandS.Head1
import HandS.Head2
import HandS.HeadEnd
import HandS.HeadHook1
import KE.KTryMore
import HandS.HotCalls
import KE.GoesComp
import KE.GoesRaise
import KE.KDictKeyed
import HandS.TupLen
import HandS.Base
import HandS.Text
import PyProof.Rows.BitMore
import HandS.Evl
import HandS.Style
import HandS.Dict
import HandS.StrMore
import HandS.Deep
import HandS.WordsDict
import HandS.WordsExc
set_option Elab.async false
set_option linter.all false
set_option maxRecDepth 100000
set_option maxHeartbeats 4000000
/-! The text by its places (printed by gen_text.py). -/
namespace Tk
open PySem L2
def top (i : Nat) : Stmt := PySem.Challenge.pw_thirstwise_k07_whole_rounds_kept.main.body.getD i (.Pass ⟨0, 0, 0, 0⟩)
abbrev s_BadDay_init : Stmt := inClass (top 8) 0
abbrev s_bits_of : Stmt := top 10
abbrev s_allowed : Stmt := top 11
abbrev s_behind : Stmt := top 12
abbrev s_choices : Stmt := top 13
abbrev s_chosen_by : Stmt := top 14
abbrev s_names_of : Stmt := top 15
abbrev s_dry_pot : Stmt := top 17
abbrev s_followed : Stmt := top 18
abbrev s_kept : Stmt := top 19
abbrev s_kept_for_ever : Stmt := top 20
abbrev s_is_whole : Stmt := top 24
abbrev s_within : Stmt := top 25
abbrev s_is_name : Stmt := top 26
abbrev s_Pot_init : Stmt := inClass (top 27) 0
abbrev s_Pot_may : Stmt := inClass (top 27) 1
abbrev s_Cactus_init : Stmt := inClass (top 28) 0
abbrev s_Cactus_may : Stmt := inClass (top 28) 1
abbrev s_Garden_init : Stmt := inClass (top 33) 0
abbrev s_Garden_size : Stmt := inClass (top 33) 1
abbrev s_Garden_number : Stmt := inClass (top 33) 2
abbrev s_Garden_state : Stmt := inClass (top 33) 3
abbrev s_Garden_place : Stmt := inClass (top 33) 4
abbrev s_Garden_fresh : Stmt := inClass (top 33) 5
abbrev s_ahead_of : Stmt := top 35
abbrev s_table : Stmt := top 36
abbrev s_Lives_init : Stmt := inClass (top 37) 0
abbrev s_Lives_days : Stmt := inClass (top 37) 1
abbrev s_Lives_best : Stmt := inClass (top 37) 2
abbrev s_rounds_of : Stmt := top 38
abbrev s_cell_at_L : Stmt := top 40
abbrev s_draw_L : Stmt := top 41
abbrev s_spec_L : Stmt := top 42
abbrev s_garden_L : Stmt := top 43
abbrev s_behind_L : Stmt := top 44
abbrev s_steps_L : Stmt := top 45
abbrev s_walked_L : Stmt := top 48
abbrev s_sorts_L : Stmt := top 50
abbrev s_refusal_L : Stmt := top 51
abbrev s_rows_L : Stmt := top 52
abbrev s_due_L : Stmt := top 53
abbrev s_right_L : Stmt := top 54
abbrev s_law : Stmt := top 55
def d_BadDay_init : He.DefD := ⟨("BadDay", some "__init__"), "__init__", "BadDay.__init__", defArgs s_BadDay_init, defBody s_BadDay_init, defScope s_BadDay_init, [], []⟩
def d_bits_of : He.DefD := ⟨("bits_of", none), "bits_of", "bits_of", defArgs s_bits_of, defBody s_bits_of, defScope s_bits_of, [], []⟩
def d_allowed : He.DefD := ⟨("allowed", none), "allowed", "allowed", defArgs s_allowed, defBody s_allowed, defScope s_allowed, [], []⟩
def d_behind : He.DefD := ⟨("behind", none), "behind", "behind", defArgs s_behind, defBody s_behind, defScope s_behind, [], []⟩
def d_choices : He.DefD := ⟨("choices", none), "choices", "choices", defArgs s_choices, defBody s_choices, defScope s_choices, [], []⟩
def d_chosen_by : He.DefD := ⟨("chosen_by", none), "chosen_by", "chosen_by", defArgs s_chosen_by, defBody s_chosen_by, defScope s_chosen_by, [.int 0], []⟩
def d_names_of : He.DefD := ⟨("names_of", none), "names_of", "names_of", defArgs s_names_of, defBody s_names_of, defScope s_names_of, [], []⟩
def d_dry_pot : He.DefD := ⟨("dry_pot", none), "dry_pot", "dry_pot", defArgs s_dry_pot, defBody s_dry_pot, defScope s_dry_pot, [], []⟩
def d_followed : He.DefD := ⟨("followed", none), "followed", "followed", defArgs s_followed, defBody s_followed, defScope s_followed, [.int 0], []⟩
def d_kept : He.DefD := ⟨("kept", none), "kept", "kept", defArgs s_kept, defBody s_kept, defScope s_kept, [], []⟩
def d_kept_for_ever : He.DefD := ⟨("kept_for_ever", none), "kept_for_ever", "kept_for_ever", defArgs s_kept_for_ever, defBody s_kept_for_ever, defScope s_kept_for_ever, [], []⟩
def d_is_whole : He.DefD := ⟨("is_whole", none), "is_whole", "is_whole", defArgs s_is_whole, defBody s_is_whole, defScope s_is_whole, [], []⟩
def d_within : He.DefD := ⟨("within", none), "within", "within", defArgs s_within, defBody s_within, defScope s_within, [], []⟩
def d_is_name : He.DefD := ⟨("is_name", none), "is_name", "is_name", defArgs s_is_name, defBody s_is_name, defScope s_is_name, [], []⟩
def d_Pot_init : He.DefD := ⟨("Pot", some "__init__"), "__init__", "Pot.__init__", defArgs s_Pot_init, defBody s_Pot_init, defScope s_Pot_init, [], []⟩
def d_Pot_may : He.DefD := ⟨("Pot", some "may"), "may", "Pot.may", defArgs s_Pot_may, defBody s_Pot_may, defScope s_Pot_may, [], []⟩
def d_Cactus_init : He.DefD := ⟨("Cactus", some "__init__"), "__init__", "Cactus.__init__", defArgs s_Cactus_init, defBody s_Cactus_init, defScope s_Cactus_init, [], []⟩
def d_Cactus_may : He.DefD := ⟨("Cactus", some "may"), "may", "Cactus.may", defArgs s_Cactus_may, defBody s_Cactus_may, defScope s_Cactus_may, [], []⟩
def d_Garden_init : He.DefD := ⟨("Garden", some "__init__"), "__init__", "Garden.__init__", defArgs s_Garden_init, defBody s_Garden_init, defScope s_Garden_init, [.int 1, .int 1, .int 0], []⟩
def d_Garden_size : He.DefD := ⟨("Garden", some "size"), "size", "Garden.size", defArgs s_Garden_size, defBody s_Garden_size, defScope s_Garden_size, [], []⟩
def d_Garden_number : He.DefD := ⟨("Garden", some "number"), "number", "Garden.number", defArgs s_Garden_number, defBody s_Garden_number, defScope s_Garden_number, [], []⟩
def d_Garden_state : He.DefD := ⟨("Garden", some "state"), "state", "Garden.state", defArgs s_Garden_state, defBody s_Garden_state, defScope s_Garden_state, [], []⟩
def d_Garden_place : He.DefD := ⟨("Garden", some "place"), "place", "Garden.place", defArgs s_Garden_place, defBody s_Garden_place, defScope s_Garden_place, [], []⟩
def d_Garden_fresh : He.DefD := ⟨("Garden", some "fresh"), "fresh", "Garden.fresh", defArgs s_Garden_fresh, defBody s_Garden_fresh, defScope s_Garden_fresh, [], []⟩
def d_ahead_of : He.DefD := ⟨("ahead_of", none), "ahead_of", "ahead_of", defArgs s_ahead_of, defBody s_ahead_of, defScope s_ahead_of, [], []⟩
def d_table : He.DefD := ⟨("table", none), "table", "table", defArgs s_table, defBody s_table, defScope s_table, [], []⟩
def d_Lives_init : He.DefD := ⟨("Lives", some "__init__"), "__init__", "Lives.__init__", defArgs s_Lives_init, defBody s_Lives_init, defScope s_Lives_init, [], []⟩
def d_Lives_days : He.DefD := ⟨("Lives", some "days"), "days", "Lives.days", defArgs s_Lives_days, defBody s_Lives_days, defScope s_Lives_days, [], []⟩
def d_Lives_best : He.DefD := ⟨("Lives", some "best"), "best", "Lives.best", defArgs s_Lives_best, defBody s_Lives_best, defScope s_Lives_best, [], []⟩
def d_rounds_of : He.DefD := ⟨("rounds_of", none), "rounds_of", "rounds_of", defArgs s_rounds_of, defBody s_rounds_of, defScope s_rounds_of, [.non], []⟩
def d_cell_at_L : He.DefD := ⟨("_law_cell_at", none), "_law_cell_at", "_law_cell_at", defArgs s_cell_at_L, defBody s_cell_at_L, defScope s_cell_at_L, [], []⟩
def d_draw_L : He.DefD := ⟨("_law_draw", none), "_law_draw", "_law_draw", defArgs s_draw_L, defBody s_draw_L, defScope s_draw_L, [], []⟩
def d_spec_L : He.DefD := ⟨("_law_spec", none), "_law_spec", "_law_spec", defArgs s_spec_L, defBody s_spec_L, defScope s_spec_L, [], []⟩
def d_garden_L : He.DefD := ⟨("_law_garden", none), "_law_garden", "_law_garden", defArgs s_garden_L, defBody s_garden_L, defScope s_garden_L, [], []⟩
def d_behind_L : He.DefD := ⟨("_law_behind", none), "_law_behind", "_law_behind", defArgs s_behind_L, defBody s_behind_L, defScope s_behind_L, [], []⟩
def d_steps_L : He.DefD := ⟨("_law_steps", none), "_law_steps", "_law_steps", defArgs s_steps_L, defBody s_steps_L, defScope s_steps_L, [], []⟩
def d_walked_L : He.DefD := ⟨("_law_walked", none), "_law_walked", "_law_walked", defArgs s_walked_L, defBody s_walked_L, defScope s_walked_L, [], []⟩
def d_sorts_L : He.DefD := ⟨("_law_sorts", none), "_law_sorts", "_law_sorts", defArgs s_sorts_L, defBody s_sorts_L, defScope s_sorts_L, [], []⟩
def d_refusal_L : He.DefD := ⟨("_law_refusal", none), "_law_refusal", "_law_refusal", defArgs s_refusal_L, defBody s_refusal_L, defScope s_refusal_L, [], []⟩
def d_rows_L : He.DefD := ⟨("_law_rows", none), "_law_rows", "_law_rows", defArgs s_rows_L, defBody s_rows_L, defScope s_rows_L, [], []⟩
def d_due_L : He.DefD := ⟨("_law_due", none), "_law_due", "_law_due", defArgs s_due_L, defBody s_due_L, defScope s_due_L, [], []⟩
def d_right_L : He.DefD := ⟨("_law_right", none), "_law_right", "_law_right", defArgs s_right_L, defBody s_right_L, defScope s_right_L, [], []⟩
def d_law : He.DefD := ⟨("law", none), "law", "law", defArgs s_law, defBody s_law, defScope s_law, [], []⟩
def fns : List He.DefD := [d_BadDay_init, d_bits_of, d_allowed, d_behind, d_choices, d_chosen_by, d_names_of, d_dry_pot, d_followed, d_kept, d_kept_for_ever, d_is_whole, d_within, d_is_name, d_Pot_init, d_Pot_may, d_Cactus_init, d_Cactus_may, d_Garden_init, d_Garden_size, d_Garden_number, d_Garden_state, d_Garden_place, d_Garden_fresh, d_ahead_of, d_table, d_Lives_init, d_Lives_days, d_Lives_best, d_rounds_of, d_cell_at_L, d_draw_L, d_spec_L, d_garden_L, d_behind_L, d_steps_L, d_walked_L, d_sorts_L, d_refusal_L, d_rows_L, d_due_L, d_right_L, d_law]
end Tk

set_option maxHeartbeats 0
/-! The head: what the top has left, by facts. -/
namespace Tk
open PySem L2 He
/-! ### facts beyond He.Fa, as one Bool -/
def oexB (K : PySem.W.Frag) (C : Addr) : Bool := (match K.lookup C with
  | some ⟨.type t, _, .cls cd, sl⟩ => (match cd.mro, sl.toList with
    | .ref D :: bm, [_, _, _, _, some (.builtin n), _] => decide (t = "type") && (decide (D = C) && (decide (n = "ValueError.__new__") && (!cd.hasDel && (cd.hasDict && PySem.HandSPX.refsVE bm))))
    | _, _ => false)
  | _ => false) && (eqO (PySem.W.findIn K (.ref C) "__setattr__") (some (some (.builtin "object.__setattr__"))) && (decide (PySem.W.subIn K (.ref C) (.type "BaseException") = some true) && (decide (PySem.W.typeIn K (.ref C) = some (.type "type")) && PySem.W.keepIn K (.ref C))))
def objB (K : PySem.W.Frag) (D : Addr) : Bool := eqO (PySem.W.findIn K (.ref D) "__class__") (some (some (.builtin "object.__class__"))) && (eqO (PySem.W.specialIn K (.builtin "object.__class__") "__get__") (some (some (.builtin "getset_descriptor.__get__"))) &&
  (decide (PySem.W.takesIn K (.builtin "object.__class__") = some true) && decide (PySem.W.mroIn K D (.type "object") = some true)))
def kitB2 (K : PySem.W.Frag) (t c : Value) (b : Bool) : Bool := decide (PySem.W.kitOne K t c = some b)
def clsValB (K : PySem.W.Frag) (C : Addr) (m : Str) (u : Value) : Bool := (PySem.W.readsIn K C (.type "type") && eqO (PySem.W.specialIn K (.ref C) "__getattribute__") (some (some (.builtin "type.__getattribute__")))) && (match PySem.W.findCls K (.ref C) (.type "type") m with
  | some (.val v) => decide (v = u)
  | _ => false)
def exB (K : PySem.W.Frag) : Bool :=
  [oexB K (ga K "BadDay"), xfB K (ga K "BadDay"), xfB K (ga K "NoPot"), objB K (ga K "BadDay"), objB K (ga K "NoPot"), objB K (ga K "Pot"), objB K (ga K "Cactus"),
    eqO (PySem.W.findIn K (.ref (ga K "BadDay")) "day") (some none), eqO (PySem.W.findIn K (.ref (ga K "BadDay")) "__init__") (some (some (.ref (ma K (ga K "BadDay") "__init__")))), decide (PySem.W.typeIn K (.ref (ma K (ga K "BadDay") "__init__")) = some (.type "function")),
    kitB2 K (.ref (ga K "Pot")) (.ref (ga K "Pot")) true, kitB2 K (.ref (ga K "Cactus")) (.ref (ga K "Pot")) true,
    kitB2 K (.ref (ga K "BadDay")) (.ref (ga K "BadPot")) false, kitB2 K (.ref (ga K "BadDay")) (.ref (ga K "TooMany")) false, kitB2 K (.ref (ga K "BadDay")) (.ref (ga K "NoPot")) false,
    kitB2 K (.ref (ga K "BadDay")) (.ref (ga K "BadDay")) true, kitB2 K (.ref (ga K "BadDay")) (.ref (ga K "BadRow")) false, kitB2 K (.ref (ga K "BadDay")) (.ref (ga K "NoState")) false, kitB2 K (.ref (ga K "BadDay")) (.type "ValueError") true,
    kitB2 K (.ref (ga K "NoPot")) (.ref (ga K "BadPot")) false, kitB2 K (.ref (ga K "NoPot")) (.ref (ga K "TooMany")) false, kitB2 K (.ref (ga K "NoPot")) (.ref (ga K "NoPot")) true,
    kitB2 K (.ref (ga K "NoPot")) (.ref (ga K "BadDay")) false, kitB2 K (.ref (ga K "NoPot")) (.ref (ga K "BadRow")) false, kitB2 K (.ref (ga K "NoPot")) (.ref (ga K "NoState")) false, kitB2 K (.ref (ga K "NoPot")) (.type "ValueError") true,
    clsValB K (ga K "GardenError") "__init__" (.builtin "ValueError.__init__"), clsValB K (ga K "Pot") "__init__" (.ref (ma K (ga K "Pot") "__init__"))].all id
def fa : List Fa := [.glo "bits_of", .glo "allowed", .glo "behind", .glo "choices", .glo "chosen_by", .glo "names_of", .glo "dry_pot", .glo "followed", .glo "kept", .glo "kept_for_ever", .glo "is_whole", .glo "within", .glo "is_name",
  .glo "Pot", .glo "Cactus", .glo "Garden", .glo "ahead_of", .glo "table", .glo "Lives", .glo "rounds_of", .glo "_law_cell_at", .glo "_law_draw", .glo "_law_spec", .glo "_law_garden", .glo "_law_behind", .glo "_law_steps", .glo "_law_walked",
  .glo "_law_sorts", .glo "_law_refusal", .glo "_law_rows", .glo "_law_due", .glo "_law_right", .glo "law", .glo "BadPot", .glo "TooMany", .glo "NoPot", .glo "BadDay", .glo "BadRow", .glo "NoState", .glo "GardenError",
  .free "isinstance", .free "len", .free "range", .free "tuple", .free "list", .free "str", .free "int", .free "bool", .free "all", .free "divmod", .free "ValueError",
  .int "LONGEST" 60, .int "MOST_POTS" 8, .int "LONGEST_WEEK" 14, .int "MOST_STATES" 20000, .str "LETTERS" "abcdefghijklmnopqrstuvwxyz",
  .cls "Pot", .cls "Cactus", .cls "Garden", .cls "Lives",
  .noat "Pot" "name", .noat "Pot" "gap", .noat "Cactus" "name", .noat "Cactus" "gap", .noat "Cactus" "rest", .noat "Garden" "pots", .noat "Garden" "cans", .noat "Garden" "week", .noat "Garden" "closed", .noat "Garden" "order",
  .noat "Lives" "garden", .noat "Lives" "table",
  .meth "Pot" "may", .meth "Cactus" "may", .meth "Garden" "size", .meth "Garden" "number", .meth "Garden" "state", .meth "Garden" "place", .meth "Garden" "fresh", .meth "Lives" "days", .meth "Lives" "best",
  .mkr "Pot", .mkr "Cactus", .mkr "Garden", .mkr "Lives", .exc "NoPot", .exm "NoPot" "GardenError" true, .exm "BadDay" "GardenError" true]
/-! ### the hook: what the module's names reach in n steps, and the static part -/
abbrev AlY : Type := AlD × Bool
def asY (g : Addr → Option Obj) (n : Nat) : List Addr := asD g n ++ [cStatics]
def obsY (n : Nat) (g : Addr → Option Obj) : AlY := (obsD fa fns (frG g (asY g n)), exB (frG g (asY g n)))
structure Says (K : PySem.W.Frag) : Prop where
  d : SaysD fa fns K
  ex : exB K = true
def hookY (n : Nat) : PySem.W.Hook where
  α := AlY
  obs := fun s => obsY n s.heap.get?
  val := fun _ => (valD fns, true)
  says := fun _ h => ∃ K : PySem.W.Frag, K.In h ∧ Says K
  of := fun _ s e => ⟨_, frG_in, ⟨congrArg (fun z : AlY => z.1) e, congrArg (fun z : AlY => z.2) e⟩⟩
  keeps := fun _ _ _ ⟨K, hK, c⟩ k => ⟨K, PySem.W.Frag.In.keeps hK k, c⟩
abbrev R : PySem.W.OpenRow := PySem.W.OpenLaw.row PySem.Challenge.rw_thirstwise_k07_whole_rounds_kept
abbrev hk : PySem.W.Hook := hookY 5
def ob (s : PySem.W.SharedT) : AlY := obsY 5 (HandSHeadRun.getT s)
theorem ob_eq (s : PySem.W.SharedT) : ob s = hk.obs s.abs := by
  have e : HandSHeadRun.getT s = s.abs.heap.get? := funext fun a => HandSHeadRun.getT_eq s a
  show obsY 5 (HandSHeadRun.getT s) = obsY 5 s.abs.heap.get?
  rw [e]
def names0 : List PySem.Str := ["_wall", "GardenError", "BadPot", "BadRow", "TooMany", "NoState", "NoPot", "BadDay", "bits_of", "allowed", "behind", "choices"]
def names1 : List PySem.Str := ["chosen_by", "names_of", "dry_pot", "followed", "kept", "kept_for_ever", "LONGEST", "LETTERS", "is_whole", "within", "is_name", "Pot"]
def names2 : List PySem.Str := ["Cactus", "MOST_POTS", "LONGEST_WEEK", "MOST_STATES", "Garden", "ahead_of", "table", "Lives", "rounds_of", "_law_cell_at", "_law_draw", "_law_spec"]
def names3 : List PySem.Str := ["_law_garden", "_law_behind", "_law_steps", "_law_number", "_law_states", "_law_walked", "_law_told", "_law_sorts", "_law_refusal", "_law_rows", "_law_due", "_law_right"]
def names : List PySem.Str := names0 ++ names1 ++ names2 ++ names3
theorem run (w : World) : HandSHeadRun.RunEq R (PySem.W.view R.prog [55]) hk ob 30000 names w := by
  intro os
  kernel_rfl
end Tk

set_option maxHeartbeats 4000000
/-! Bundles for calls (a def, a method, a class with all that a caller needs), and small rules that the layer lacks. -/
namespace Tk
open PySem PySem.Spec PyProof.Rows L2
abbrev St := L2.St
theorem pe_or {X : Cx} {e : Expr} {t u : TE} (h : PE X e t) (k : PE X e u) : PE X e (fun σ H Q => t σ H Q ∨ u σ H Q) :=
  ⟨fun pins s σ H Q I w => w.elim (h.run pins s σ H Q I) (k.run pins s σ H Q I)⟩
/-- the def x of the module keeps sp; the defaults dvs fill up -/
structure Df (P : Program) (w : World) (K : PySem.W.Frag) (mg : Str → Option Value) (base : Heap) (CX : CXT) (k : Nat) (x : Str) (ps : List Str) (dvs : List V) (sp : Sp) : Prop where
  ex : ∃ f fd ds, FnOk P w K mg base CX k f fd ps sp ∧ mg x = some (.ref f) ∧ PySem.W.keepIn K (.ref f) = true ∧ Vals dvs ds ∧ Binds K fd ps ds
/-- the method m of the class at C keeps sp -/
structure Mt (P : Program) (w : World) (K : PySem.W.Frag) (mg : Str → Option Value) (base : Heap) (CX : CXT) (k : Nat) (C : Addr) (m : Str) (ps : List Str) (sp : Sp) : Prop where
  ex : ∃ f fd, FnOk P w K mg base CX k f fd ps sp ∧ Meth K C m f ∧ Binds K fd ps []
  cl : Cls K C
/-- the class x, at C, is made by an __init__ that keeps sp -/
structure Ck (P : Program) (w : World) (K : PySem.W.Frag) (mg : Str → Option Value) (base : Heap) (CX : CXT) (k : Nat) (C : Addr) (x : Str) (ps : List Str) (dvs : List V) (sp : Sp) : Prop where
  ex : ∃ f fd ds, FnOk P w K mg base CX k f fd ps sp ∧ Mk K C f ∧ mg x = some (.ref C) ∧ Vals dvs ds ∧ Binds K fd ps ds
section
variable {X : Cx} {CX : CXT} {k : Nat} {C : Addr} {ps : List Str} {sp : Sp} {dvs : List V} {E : XK} {x m : Str} {p pos apos : Pos} {e o : Expr} {es : List Expr} {ta : TE} {t : TA}
theorem pe_df (D : Df X.prog X.w X.K X.mg X.base CX k x ps dvs sp) (hr : Room k X.A) (hg : Gl X x) (hx : Passes CX X E) (ha : PA X (e :: es) t) (hdb : (x == ("__debug__" : Str)) = false := by decide)
    (he : starEach (e :: es) X.env = (false, eval e X.env) :: starEach es X.env := by rfl) (hpl : (backTo pos (starEach es X.env)).any (·.1) = false := by rfl) : PE X (.Call (.Name x p) (e :: es) [] pos) (tCall sp dvs E t) := by
  obtain ⟨f, fd, ds, F, hm, hk, hd, hb⟩ := D.ex
  exact pe_call F hr hg hm hk hb hd hx ha hdb he hpl
theorem pe_mt {pl : Sem Bool} (he : PE X o ta) (D : Mt X.prog X.w X.K X.mg X.base CX k C m ps sp) (hr : Room k X.A) (hx : Passes CX X E) (ha : PA X (e :: es) t)
    (hst : starEach (e :: es) X.env = (false, eval e X.env) :: starEach es X.env := by rfl) (hpl : (backTo pos (starEach es X.env)).any (·.1) = false := by rfl)
    (ht : eval (.Call (.Attribute o m apos) (e :: es) [] pos) X.env = (do
      let ov ← eval o X.env
      standAt apos.atName
      let (f, first) ← holding [ov] (getMethod ov m pl)
      callWith pos f first (backTo pos (starEach (e :: es) X.env)) (backToKw pos (keywordEach [] X.env))) := by rfl) :
    PE X (.Call (.Attribute o m apos) (e :: es) [] pos) (tMeth C m sp [] E ta t) := by
  obtain ⟨f, fd, F, hm, hb⟩ := D.ex
  exact pe_meth he D.cl hm F hr hb .nil hx ha hst hpl ht
theorem pe_mt0 {pl : Sem Bool} (he : PE X o ta) (D : Mt X.prog X.w X.K X.mg X.base CX k C m ps sp) (hr : Room k X.A) (hx : Passes CX X E)
    (ht : eval (.Call (.Attribute o m apos) [] [] pos) X.env = (do
      let ov ← eval o X.env
      standAt apos.atName
      let (f, first) ← holding [ov] (getMethod ov m pl)
      callWith pos f first (backTo pos (starEach [] X.env)) (backToKw pos (keywordEach [] X.env))) := by rfl) :
    PE X (.Call (.Attribute o m apos) [] [] pos) (tMeth C m sp [] E ta tNil) := by
  obtain ⟨f, fd, F, hm, hb⟩ := D.ex
  exact pe_meth0 he D.cl hm F hr hb .nil hx ht
theorem pe_ck (D : Ck X.prog X.w X.K X.mg X.base CX k C x ps dvs sp) (hr : Room (k + 1) X.A) (hg : Gl X x) (hx : Passes CX X E) (ha : PA X (e :: es) t) (hdb : (x == ("__debug__" : Str)) = false := by decide)
    (he : starEach (e :: es) X.env = (false, eval e X.env) :: starEach es X.env := by rfl) (hpl : (backTo pos (starEach es X.env)).any (·.1) = false := by rfl) : PE X (.Call (.Name x p) (e :: es) [] pos) (tMake C sp dvs E t) := by
  obtain ⟨f, fd, ds, F, M, hm, hd, hb⟩ := D.ex
  exact pe_make M F hr hg hm hb hd hx ha hdb he hpl
/-! ### C.m(a, ..), a function of the class at C called as it stands there -/
/-- what of the text says that C.m is u -/
structure CV (K : PySem.W.Frag) (C : Addr) (m : Str) (u : Value) : Prop where
  rd : PySem.W.readsIn K C (.type "type") = true
  ga : PySem.W.specialIn K (.ref C) "__getattribute__" = some (some (.builtin "type.__getattribute__"))
  at_ : PySem.W.findCls K (.ref C) (.type "type") m = some (.val u)
def tClsFn (sp : Sp) (E : XK) (t : TA) : TE := fun σ H Q => t σ H fun vs H1 => sp vs H1 Q E
theorem pe_clsfn {pl : Sem Bool} {f : Addr} {fd : FuncData} {c : Str} {p2 : Pos} (F : FnOk X.prog X.w X.K X.mg X.base CX k f fd ps sp) (hr : Room k X.A) (hg : Gl X c) (hm : X.mg c = some (.ref C)) (V : CV X.K C m (.ref f)) (hk : PySem.W.keepIn X.K (.ref f) = true) (hb : Binds X.K fd ps [])
    (hx : Passes CX X E) (ha : PA X (e :: es) t) (hdb : (c == ("__debug__" : Str)) = false := by decide)
    (hst : starEach (e :: es) X.env = (false, eval e X.env) :: starEach es X.env := by rfl) (hpl : (backTo pos (starEach es X.env)).any (·.1) = false := by rfl)
    (ht : eval (.Call (.Attribute (.Name c p2) m apos) (e :: es) [] pos) X.env = (do
      let ov ← eval (.Name c p2) X.env
      standAt apos.atName
      let (f, first) ← holding [ov] (getMethod ov m pl)
      callWith pos f first (backTo pos (starEach (e :: es) X.env)) (backToKw pos (keywordEach [] X.env))) := by rfl) :
    PE X (.Call (.Attribute (.Name c p2) m apos) (e :: es) [] pos) (tClsFn sp E t) := by
  refine ⟨fun pins s σ H Q I h => ?_⟩
  refine PySem.W.methodCall_KW (pl := pl) (ld_glob I hg hm ?_ hdb) ht
  refine PySem.W.method_cls I.kIn V.ga (PySem.W.cls_value I.kIn V.rd V.at_ rfl ?_)
  have I1 := I.tok (s.toks + 1)
  refine PySem.W.callWith_K (first := []) (h₀ := X.base) I1.ok.mod.kin hk (thn (ha.run pos pins _ σ H _ I1 h) fun us s1 ⟨vs, H1, I2, r, q⟩ => ⟨I2.kIn, ?_⟩) hst hpl
  exact run_fn (us := us) (vs := vs) (dvs := []) (ds := []) F hr hb .nil hx I2 r (by rw [List.append_nil]; exact q)
/-! ### small ones -/
def ipMul : TIp := fun x y H Q => ∃ i j, x = .int i ∧ y = .int j ∧ CMul i j ∧ Q (.int (i * j)) H
theorem ip_mul : PIp X .Mult ipMul := by
  intro pins s σ H x y v u Q I r1 r2 h
  obtain ⟨i, j, rfl, rfl, hc, q⟩ := h
  obtain ⟨t, rfl⟩ := r1
  obtain ⟨t', rfl⟩ := r2
  exact imul_int ⟨.int _, H, I.tok _, ⟨_, rfl⟩, q⟩ hc.ok
/-- xs[i], 0 ≤ i, for an augmented store -/
def rGetL (K : PySem.W.Frag) : V → V → Hp → VK → Prop := fun x y H Q => ∃ p xs i v, x = .ref p ∧ y = .int i ∧ 0 ≤ i ∧ SqL K H p xs ∧ xs[i.toNat]? = some v ∧ Q v H
theorem get_list : PGet X (rGetL X.K) := by
  intro pins s σ H x y v u Q I rx ry h
  obtain ⟨p, xs, i, z, rfl, rfl, h0, hq, he, q⟩ := h
  cases rx
  obtain ⟨t, rfl⟩ := ry
  obtain ⟨its, r, pl, hz⟩ := I.list hq
  obtain ⟨w, ew, rw'⟩ := r.get he
  have hl := r.length
  have hn := line63
  have hlt : i.toNat < xs.length := (List.getElem?_eq_some_iff.mp he).1
  exact wpAny_getItem_list pl.isList h0 (by omega) (by simpa using ew) ⟨z, H, I, rw', q⟩
theorem countP_eqU {x : V} : ∀ {xs : List V} {us : List Value}, Vals xs us → xs.all flatV = true → us.countP (eqU x) = xs.countP fun y => eqV y x
  | _, _, .nil, _ => rfl
  | y :: xs, u :: us, .cons r t, f => by
    obtain ⟨f1, f2⟩ := Bool.and_eq_true_iff.mp (show (flatV y && xs.all flatV) = true from by simpa using f)
    rw [List.countP_cons, List.countP_cons, countP_eqU t f2, eqU_of r f1]
def rCntF (K : PySem.W.Frag) : V → List V → Hp → VK → Prop := fun x vs H Q => ∃ (p : Addr) (xs : List V) (y : V), x = .ref p ∧ vs = [y] ∧ SqL K H p xs ∧ flatV y = true ∧ xs.all flatV = true ∧ Q (.int ((xs.countP fun z => eqV z y : Nat))) H
theorem mt_countF : MtR X "list.count" (rCntF X.K) := by
  intro pins s σ H x xs v us Q I rx rxs h
  obtain ⟨p, ys, y, rfl, rfl, hs, fy, fl, q⟩ := h
  cases rx
  obtain ⟨u, rfl, ru⟩ := rxs.one
  obtain ⟨its, rv, ⟨⟨cls, dd, data, sl⟩, n, ho, hc, hdn, hd⟩, hlen⟩ := I.list hs
  simp only at hc hd
  subst hc hd
  refine call_meets PySem.F.slot_list_count ⟨_, ho, rfl⟩ PySem.F.entry_list_count (PySem.F.args_list_count_2 _ _)
    (SeqAt.list_countAt p its.toArray n dd sl u (eqU y)) ⟨ho, fun z hz => mem_eqAt ru fy rv fl z (by simpa using hz), ?_⟩
  have ec : its.toArray.toList.countP (eqU y) = ys.countP fun z => eqV z y := countP_eqU rv fl
  refine ⟨.int _, H, I.tok _, ⟨s.toks, ?_⟩, q⟩
  show Value.int ((its.toArray.toList.countP (eqU y) : Nat) : Int) s.toks = _
  rw [ec]
end
end Tk

set_option maxHeartbeats 4000000
/-! Exceptions: an own __init__ that calls its base's by the base's name; defs that an except suite calls with the exception that it holds. -/
namespace Tk
open PySem PySem.Spec PyProof.Rows L2
/-! ### G.__init__(self, ..), G an own class that has ValueError's -/
section
variable {X : Cx} {G C : Addr} {c : Str} {e : Expr} {es : List Expr} {ta : TA} {p p1 p2 pos : Pos}
theorem pe_geinit {pl : Sem Bool} (hg : Gl X c) (hm : X.mg c = some (.ref G)) (V : CV X.K G "__init__" (.builtin "ValueError.__init__")) (ha : PA X (e :: es) ta) (hdb : (c == ("__debug__" : Str)) = false := by decide)
    (hc : eval (.Call (.Attribute (.Name c p1) "__init__" p2) (e :: es) [] pos) X.env = (do
      let ov ← eval (.Name c p1) X.env
      standAt p2.atName
      let (f, first) ← holding [ov] (getMethod ov "__init__" pl)
      callWith pos f first (backTo pos (starEach (e :: es) X.env)) (backToKw pos (keywordEach [] X.env))) := by rfl)
    (he : starEach (e :: es) X.env = (false, eval e X.env) :: starEach es X.env := by rfl) (hpl : (backTo pos (starEach es X.env)).any (·.1) = false := by rfl) :
    PE X (.Call (.Attribute (.Name c p1) "__init__" p2) (e :: es) [] pos) (tVeI X.K ta) := by
  refine ⟨fun pins s σ H Q I h => ?_⟩
  refine PySem.W.methodCall_KW (pl := pl) (ld_glob I hg hm ?_ hdb) hc
  refine PySem.W.method_cls I.kIn V.ga (PySem.W.cls_value I.kIn V.rd V.at_ rfl ?_)
  show wpAny _ _ (callWith pos (Value.builtin "ValueError.__init__") [] (backTo pos (starEach (e :: es) X.env)) []) _ _ _
  refine PyProof.Rows.callWith_method1 (thn (ha.run pos pins _ σ H _ (I.tok _) h) fun us s1 ⟨vs, H1, I1, r1, a, C, ws, ev, hl, T, ea, q⟩ => ?_) he hpl
  subst ev
  cases r1 with
  | @cons _ u0 _ ur ra rw' =>
    obtain rfl : u0 = Value.ref a := ra
    have hlen : ur.length ≤ sizeLine := by
      rw [← Paired.length rw', sizeLine_eq]
      omega
    exact oinit_ok T I1 ea hlen fun s' J => ⟨.non, H1, J, rfl, q⟩
/-- the promise of an __init__ that keeps its one argument in the field f -/
def spKeep (C : Addr) (f : Str) : Sp := fun vs H Q _ => ∃ (a : Addr) (v : V), vs = [.ref a, v] ∧ H a = some (exo a C none) ∧ ∀ d, H d = none → d ≠ a → Q .non (upd (upd H d (exd d [(f, v)])) a (exo a C (some d)))
/-- a reading made upward closed -/
def tUp (te : TE) : TE := fun σ H Q => ∃ Q0 : VK, te σ H Q0 ∧ ∀ v H1, Q0 v H1 → Q v H1
theorem pe_up {te : TE} (h : PE X e te) : PE X e (tUp te) := ⟨fun pins s σ H Q I ⟨Q0, q, k⟩ => thn (h.run pins s σ H Q0 I q) fun u s' ⟨v, H', I', r, z⟩ => ⟨v, H', I', r, k v H' z⟩⟩
/-- C(e), C such a class -/
def tMkKeep (C : Addr) (f : Str) (te : TE) : St → Hp → XK → Prop := fun σ H Q => te σ H fun v H1 => ∀ d, H1 d = none → Q (.ref C) (some d) (upd H1 d (.xd [(f, v)]))
theorem keep_tr {C : Addr} {f : Str} {Q : XK} {v : V} {H1 : Hp} (q : ∀ d, H1 d = none → Q (.ref C) (some d) (upd H1 d (.xd [(f, v)]))) : ([v] : List V).length ≤ 1000 ∧ ∀ a, H1 a = none → spKeep C f (.ref a :: ([v] ++ [])) (upd H1 a (exo a C none))
      (fun u H2 => u = .non ∧ ∃ (d : Addr) (fs : List (Str × V)), H2 a = some (exo a C (some d)) ∧ H2 d = some (exd d fs) ∧ H1 d = none ∧ Q (.ref C) (some d) (upd (del H2 a) d (.xd fs))) (fun _ _ _ => False) := by
  refine ⟨by show 1 ≤ 1000; decide, fun a na => ⟨a, v, rfl, upd_same, fun d nd ne => ⟨rfl, d, [(f, v)], upd_same, ?_, ?_, ?_⟩⟩⟩
  · rw [upd_ne ne, upd_same]
  · rw [upd_ne ne] at nd
    exact nd
  · have eH : upd (del (upd (upd (upd H1 a (exo a C none)) d (exd d [(f, v)])) a (exo a C (some d))) a) d (.xd [(f, v)]) = upd H1 d (.xd [(f, v)]) := by
      funext b
      by_cases hb : b = d
      · rw [hb, upd_same, upd_same]
      · rw [upd_ne hb, upd_ne hb]
        by_cases hba : b = a
        · rw [hba, del_same, na]
        · rw [del_ne hba, upd_ne hba, upd_ne hb, upd_ne hba]
    rw [eH]
    rw [upd_ne ne] at nd
    exact q d nd
theorem pmk_keep {f x : Str} {te : TE} {k : Nat} {fI : Addr} {fd : FuncData} {ps : List Str} (T : OexC X.K C) (iC : PySem.W.findIn X.K (.ref C) "__init__" = some (some (.ref fI))) (tI : PySem.W.typeIn X.K (.ref fI) = some (.type "function"))
    (F : FnOk X.prog X.w X.K X.mg X.base CX0 k fI fd ps (spKeep C f)) (hr : Room (k + 1) X.A) (hb : Binds X.K fd ps []) (hg : Gl X x) (hm : X.mg x = some (.ref C)) (ha : PE X e te)
    (hdb : (x == ("__debug__" : Str)) = false := by decide) (he : starEach (e :: []) X.env = (false, eval e X.env) :: starEach [] X.env := by rfl) (hpl : (backTo pos (starEach [] X.env)).any (·.1) = false := by rfl) :
    PMk X (.Call (.Name x p) [e] [] pos) (tMkKeep C f te) := by
  intro pins s σ H Q I h
  refine pmk_oex (p := p) (pos := pos) (dvs := []) (ds := []) T iC tI F hr hb .nil pass0 hg hm (pa_cons (pe_up ha) pa_nil he) hdb he hpl pins s σ H Q I ?_
  exact ⟨_, h, fun v H1 q => keep_tr q⟩
end
/-! ### an exception that stands pinned: what is known of it -/
structure IsExc (K : PySem.W.Frag) (H : Hp) (p : Addr × Obj) (D : Addr) (d : Option Addr) : Prop where
  cls : Zc (.ref D) d p.2
  data : ∃ vs, p.2.data = .fields vs
  own : ∀ dd, d = some dd → ∃ fs, H dd = some (.xd fs)
section
variable {X : Cx} {pins : List (Addr × Obj)} {σ : St} {H : Hp} {s : Shared} {p : Addr × Obj} {D : Addr} {d : Option Addr}
theorem IsExc.inst (I : Inv X pins σ H s) (hp : p ∈ X.pn) (h : IsExc X.K H p D d) : ∃ od, PySem.W.InstAt s.heap p.1 p.2 D od := by
  obtain ⟨⟨c1, c2⟩, ⟨vs, dt⟩, own⟩ := h
  have hg := (I.pin p (List.mem_append_left _ hp)).1
  have no : PySem.W.notCls p.2 = true := by
    unfold PySem.W.notCls
    rw [dt] <;> rfl
  cases d with
  | none => exact ⟨none, hg, c1, no, by rw [c2] <;> trivial⟩
  | some dd =>
    obtain ⟨fs, hd⟩ := own dd rfl
    obtain ⟨mA, hns, _⟩ := (show ObjOk X.prog X.w H s.heap dd (.xd fs) from I.hok dd _ hd)
    obtain ⟨od, ho, _⟩ := lookIn_ns hns
    exact ⟨some od, hg, c1, no, by rw [c2]; exact ho⟩
end
end Tk
namespace PySem.W
open PySem PySem.Spec PySem.Calls PyProof.Rows
section
variable {prog : Program} {w : World} {A : Around} {E : Value → Shared → Prop} {s : Shared} {K : Frag} {x D : Addr} {ox : Obj} {od : Option Obj}
theorem tk_dataD {C : Addr} {name : Str} {a g : Value} (hc : (clsIn K C).isSome = true) (ha : findIn K (.ref C) name = some (some a)) (hg : specialIn K a "__get__" = some (some g)) (ht : takesIn K a = some true) : findObj K C od name = some (.bind g a) := by
  obtain ⟨cd, e⟩ := Option.isSome_iff_exists.mp hc
  unfold findObj
  rw [e, Option.bind_some, ha, Option.bind_some]
  simp [hg, ht]
/-- e.__class__ of an exception, with or without a dict of its own -/
theorem tk_classE {Q : Option Value → Shared → Prop} (c : L2.ExcC K D) (X : K.In s.heap) (I : InstAt s.heap x ox D od) (h : Q (some (.ref D)) { s with toks := s.toks + 1 }) : wpAny (model prog w) A (getAttr? (.ref x) "__class__") Q E s := by
  have hf : findObj K D od "__class__" = some (.bind (.builtin "getset_descriptor.__get__") (.builtin "object.__class__")) := tk_dataD (by obtain ⟨cd, hc, _⟩ := any_some c.hd; rw [hc]; rfl) c.ha c.hn c.ht
  obtain ⟨hp, g, d, t, os⟩ := s
  have T0 := I.type (M := model prog w)
  have T1 := looks_findIn (M := model prog w) X c.hg
  have T2 := looks_findIn (M := model prog w) X c.hk
  have T3 := looks_find (M := model prog w) X I hf
  have sub : Looks (model prog w) hp (isInstance (.ref x) (.type "BaseException")) true := T0.andThen (looks_subIn X c.hs)
  have q2 : (Value.builtin "BaseException.__getattribute__" == Value.builtin "object.__getattribute__") = false := by decide +kernel
  have q1 : (onTheHeap (Value.ref D) && Value.builtin "BaseException.__getattribute__" == Value.builtin "object.__getattribute__") = false := by rw [q2]; rfl
  unfold getAttr? getAttrBy? getAttrBy
  refine wpAny_bind (wpAny_mkText (wpAny_bind (wpAny_attempt (wpAny_holding (wpAny_bind (T0.at (wpAny_bind (T1.at ?_))))))))
  show wpAny _ _ (if (onTheHeap (Value.ref D) && Value.builtin "BaseException.__getattribute__" == Value.builtin "object.__getattribute__") = true then _ else _) _ _ _
  rw [q1, if_neg Bool.false_ne_true]
  unfold getAttrByItsOwn hookBefore
  refine wpAny_bind ?_
  rw [if_pos (show onTheHeap (Value.ref D) = true from rfl)]
  refine T2.at ?_
  refine wpAny_bind (wpAny_attempt (wpAny_holding ?_))
  unfold callGetattribute
  rw [show (false && onTheHeap (Value.builtin "BaseException.__getattribute__")) = false from rfl, if_neg Bool.false_ne_true]
  unfold boundAndCalled
  rw [PySem.F.excAttr_ValueError.ga.bind (.ref x)]
  refine wpAny_bind (wpAny_pure ?_)
  show wpAny _ _ (call (.builtin "BaseException.__getattribute__") [.ref x, .str "__class__" t]) _ _ _
  refine wpAny_call (codeAny_call_builtin PySem.F.excAttr_ValueError.ga.plain PySem.F.entry_bexc_ga ?_)
  refine @check_slot (model prog w) _ _ ⟨hp, g, d, t + 1, os⟩ "BaseException.__getattribute__" "BaseException" "__getattribute__" (.ref x) [.str "__class__" t] [] _ (by decide +kernel) (by decide +kernel) sub (PySem.F.args_bexc_ga (.ref x) (.str "__class__" t)) ?_
  unfold Builtin.«object.__getattribute__»
  refine wpAny_bind (wpAny_of_eq (a := ((Value.ref x : Value), [Value.str "__class__" t])) (by first | rfl | (simp only [slotArgs]; rfl)) ?_)
  refine wpAny_bind (wpAny_pure (wpAny_bind (T0.at (wpAny_bind (T3.at ?_)))))
  show wpAny _ _ (holding [Value.builtin "object.__class__"] (call (.builtin "getset_descriptor.__get__") [.builtin "object.__class__", .ref x, .ref D]) >>= ret) _ _ _
  refine wpAny_bind (wpAny_holding (wpAny_call (class_get (s := ⟨hp, g, d, t + 1, os⟩) (ox := ox) (od := od) X I c.hm ?_)))
  refine wpAny_pure ?_
  show wpAny _ _ (handedOut (.ref D)) _ _ _
  rw [handedOut_of (v := .ref D) rfl]
  first
    | exact wpAny_pure (wpAny_pure h)
    | exact wpAny_pure h
    | exact wpAny_pure (wpAny_bind (wpAny_pure (wpAny_pure h)))
theorem tk_kitx (c : L2.ExcC K D) : KitX K (.ref x) (.ref D) (fun h => InstAt h x ox D od) := by
  have old := handS_kitx_exc (K := K) (x := x) (D := D) (ox := ox) c.hg c.hk c.hs c.hd c.ha c.hn c.ht c.hm
  have cd : ∃ o : Obj, K.lookup D = some o ∧ (∃ c', o.data = .cls c') ∧ True := by
    obtain ⟨cdD, hcD, _⟩ := any_some c.hd
    unfold clsIn at hcD
    split at hcD
    · rename_i c' d' cd' sl' ho
      exact ⟨_, ho, ⟨_, rfl⟩, trivial⟩
    · cases hcD
  obtain ⟨oD, lD, ⟨cD, dD⟩, _⟩ := cd
  refine ⟨fun _ _ _ I => I.type, fun _ _ X _ => ?_, old.ne, fun X I k => tk_classE c X I k⟩
  intro A' Q' E' s' k q
  obtain ⟨ocl, od', odt, osl⟩ := oD
  dsimp only at dD
  subst dD
  unfold isType loadHead
  exact wpAny_bind (wpAny_loadPart (k _ _ (X _ _ lD)) (wpAny_pure q))
end
end PySem.W
namespace Tk
open PySem PySem.Spec PyProof.Rows L2
section
variable {X : Cx} {p : Addr × Obj}
/-- isinstance(e, c), e a pinned exception -/
def rIsP (K : PySem.W.Frag) (p : Addr × Obj) : List V → Hp → VK → Prop := fun xs H Q => ∃ (c : V) (cv : Value) (b : Bool) (D : Addr) (d : Option Addr), xs = [.ref p.1, c] ∧ ClsV c cv ∧ ExcC K D ∧ IsExc K H p D d ∧ PySem.W.kitOne K (.ref D) cv = some b ∧ Q (.bl b) H
theorem call_isP (hp : p ∈ X.pn) : CallR X (.builtin "isinstance") (rIsP X.K p) := by
  intro pins s σ H xs us Q I r h
  obtain ⟨c, cv, b, D, d, rfl, kc, EC, hE, e, q⟩ := h
  obtain ⟨u1, u2, rfl, r1, r2⟩ := vals2 r
  cases r1
  have e2 := kc.eq r2
  subst e2
  obtain ⟨od, J⟩ := hE.inst I hp
  exact PySem.W.kia_one (PySem.W.tk_kitx EC) I.kIn J e (fun z => nomatch z) fun tk => ⟨.bl b, H, I.tok tk, rfl, q⟩
/-- e.f of a pinned exception that has a dict -/
def tXP (K : PySem.W.Frag) (p : Addr × Obj) (f : Str) (te : TE) : TE := fun σ H Q => te σ H fun x H1 => x = .ref p.1 ∧ ∃ (D dd : Addr) (fs : List (Str × V)) (v : V), XfC K D ∧ PySem.W.findIn K (.ref D) f = some none ∧ Zc (.ref D) (some dd) p.2 ∧
  (∃ vs, p.2.data = .fields vs) ∧ H1 dd = some (.xd fs) ∧ fs.lookup f = some v ∧ Q v H1
theorem pe_xp {e : Expr} {te : TE} {pos : Pos} {f : Str} (hp : p ∈ X.pn) (he : PE X e te) (hb : attributeBase e f X.env (eval e X.env) = eval e X.env := by rfl) : PE X (.Attribute e f pos) (tXP X.K p f te) := by
  refine ⟨fun pins s σ H Q I h => ?_⟩
  refine attr_of hb (thn (he.run pins s σ H _ I h) fun u s1 hh => ?_)
  obtain ⟨x, H1, I1, rx, ex, D, dd, fs, v, T, hno, ⟨c1, c2⟩, ⟨vs, dt⟩, ea, l, q⟩ := hh
  subst ex
  obtain rfl : u = Value.ref p.1 := rx
  have hg := (I1.pin p (List.mem_append_left _ hp)).1
  obtain ⟨mA, hns, rel⟩ := (show ObjOk X.prog X.w H1 s1.heap dd (.xd fs) from I1.hok dd _ ea)
  obtain ⟨od, ho, hl⟩ := lookIn_ns hns
  obtain ⟨u, hu, ru⟩ := RelO.some_of (v := v) (o := mA f) (by rw [← l]; exact rel f)
  have J : PySem.W.InstAt s1.heap p.1 p.2 D (some od) := ⟨hg, c1, by unfold PySem.W.notCls; rw [dt] <;> rfl, by rw [c2]; exact ho⟩
  exact PySem.HandSPX.exc_get I1.kIn J T.ga T.gg T.exC (PySem.W.findObj_own T.hdC hno rfl (by rw [hl, hu])) (handed_of ru) ⟨v, H1, I1.tok _, ru, q⟩
end
/-! ### defs that an except suite calls, with the exception that it holds as p -/
structure FnE (P : Program) (w : World) (K : PySem.W.Frag) (mg : Str → Option Value) (base : Heap) (k : Nat) (f : Addr) (fd : FuncData) (ps : List Str) (sp : Addr × Obj → Sp) : Prop where
  len : ∀ p vs H Q E, sp p vs H Q E → vs.length = ps.length
  run : ∀ (A : Around) (outer : List Env) (s : Shared) (H : Hp) (args : Args) (us : List Value) (vs : List V) (Q : VK) (E : XK) (p : Addr × Obj), L2H.RoomH k A → L2H.PinOk outer H s p → Env0 P w K mg base A outer s H →
    BindsTo s fd args (ps.zip us) → Vals vs us → sp p vs H Q E → codeAny (model P w) A (.call (.ref f) args) (CR CX0 outer P w H s Q E) s
theorem okE {P : Program} {w : World} {K : PySem.W.Frag} {mg : Str → Option Value} {base : Heap} {x qual : Str} {params : Arguments} {body : List Stmt} {scope : Scope} {dvs : List V} {kws : List (Str × V)} {f : Addr} {fd : FuncData} {N ps : List Str} {k : Nat}
    {sp : Addr × Obj → Sp} (F : FunD K x qual params body scope dvs kws f fd) (S : FnScope N ps scope) (len : ∀ p vs H Q E, sp p vs H Q E → vs.length = ps.length)
    (hbody : ∀ (cdv : Value) (A : Around) (outer : List Env) (s : Shared) (H : Hp) (vs : List V) (Q : VK) (E : XK) (p : Addr × Obj), L2H.RoomH k (A.deeper (envOfC qual scope s.heap.objs.size f cdv)) → sp p vs H Q E →
      ∃ t, PSs (L2H.cxH CX0 P w K mg base N qual scope f cdv A outer s H E p) body t ∧ t { nx := fun _ H' => Q .non H', rt := Q } (start N vs) H) : FnE P w K mg base (k + 1) f fd ps sp := by
  obtain ⟨oc, od, dV, kV, doc, pm, an, cdv, ct, osl, rfl, lk, hcd, _, _⟩ := F.ex
  refine ⟨len, fun A outer s H args us vs Q E p hr hpin e0 hb r hsp => ?_⟩
  have stays : ∀ b o, base.get? b = some o → s.heap.get? b = some o := fun b o e => (e0.bs b o e).1
  have inK : K.In s.heap := e0.mod.kin.keeps stays
  refine codeAny_call_function hr.depth (inK _ _ lk) rfl S.co S.gen rfl (PySem.W.codeRec_of inK hcd) (hb _ _ _ _ ?_)
  have kinds : ∀ y ∈ ps.zip us, scope.names.lookup y.1 = some .local ∨ (scope.names.lookup y.1 = some .cell ∧ ((cellsFrom (s.heap.objs.size + 1) scope.names []).lookup y.1).isSome = true) := fun y hy =>
    (S.par y.1 (List.of_mem_zip (show (y.1, y.2) ∈ ps.zip us from hy)).1).elim .inl fun q => .inr ⟨q, PySem.W.cellsFrom_some _ _ _ (.inl q)⟩
  refine wpAny_newFunctionEnv_cells S.kind kinds fun env he s1 x => ?_
  subst he
  refine ⟨(e0.mod.nolimit.keeps stays).keeps x.toInCall.keep, codeAny_func ?_⟩
  obtain ⟨t, ht, hq⟩ := hbody cdv A outer s H vs Q E p (hr.deeper _) hsp
  have I := L2H.inv_startH (CX := CX0) (E := E) (N := N) (f := f) (qual := qual) S hpin e0 (len _ _ _ _ _ hsp) r x
  refine wpAny_mono (ht.run [] s1 (start N vs) H _ I hq) (fun fl s' hs => ?_) fun e s' hs => hs
  cases fl with
  | ret u =>
    obtain ⟨v, _, H', J, rv, q⟩ := hs
    exact ⟨v, H', J.os, J.bare, J.base, J.hok, rv, q⟩
  | next =>
    obtain ⟨_, H', J, q⟩ := hs
    exact ⟨V.non, H', J.os, J.bare, J.base, J.hok, rfl, q⟩
  | brk =>
    obtain ⟨_, _, _, q⟩ := hs
    exact q.elim
  | cont =>
    obtain ⟨_, _, _, q⟩ := hs
    exact q.elim
theorem pe_callE {X : Cx} {k : Nat} {f : Addr} {fd : FuncData} {ps : List Str} {sp : Addr × Obj → Sp} {x : Str} {q pos : Pos} {e : Expr} {es : List Expr} {t : TA} {p : Addr × Obj} (F : FnE X.prog X.w X.K X.mg X.base k f fd ps sp) (hr : L2H.RoomH k X.A) (hp : p ∈ X.pn)
    (hg : Gl X x) (hm : X.mg x = some (.ref f)) (hk : PySem.W.keepIn X.K (.ref f) = true) (hb : Binds X.K fd ps []) (ha : PA X (e :: es) t) (hdb : (x == ("__debug__" : Str)) = false := by decide)
    (he : starEach (e :: es) X.env = (false, eval e X.env) :: starEach es X.env := by rfl) (hpl : (backTo pos (starEach es X.env)).any (·.1) = false := by rfl) : PE X (.Call (.Name x q) (e :: es) [] pos) (tCall (sp p) [] E0 t) := by
  refine ⟨fun pins s σ H Q I h => ?_⟩
  refine wpAny_Call_Name_kw (ld_glob I hg hm ?_ hdb)
  refine PySem.W.callWith_K (h₀ := X.base) I.ok.mod.kin hk (thn (ha.run pos pins s σ H _ I h) fun us s1 ⟨vs, H1, I1, r, q⟩ => ⟨I1.kIn, ?_⟩) he hpl
  have r2 : Vals (vs ++ []) (us ++ []) := r.append .nil
  have hl : (us ++ []).length = ps.length := by rw [← r2.length]; exact F.len _ _ _ _ _ q
  obtain ⟨p1, p2, p3, p4, p5⟩ := I1.pin p (List.mem_append_left _ hp)
  have pinned : L2H.PinOk X.stack H1 s1 p := ⟨p1, p2, fun hm => (List.mem_cons.mp (I1.stkSub p.1 hm)).elim p3 p4, p5⟩
  refine wpAny_call (codeAny_mono (F.run X.A X.stack s1 H1 ⟨us, []⟩ (us ++ []) (vs ++ []) Q E0 p hr pinned I1.env0 (hb s1 us I1.kIn hl) r2 q) fun r' s' hq => ?_)
  cases r' with
  | error e => exact hq.elim
  | ok fl =>
    cases fl with
    | ret u => exact I1.after hq
    | next => exact hq.elim
    | brk => exact hq.elim
    | cont => exact hq.elim
end Tk

set_option maxHeartbeats 4000000
/-! y = [e for x in xs], where e calls a def that may raise: the exception leaves the comprehension. -/
namespace Tk
open PySem PySem.Spec PyProof.Rows L2
/-- a block's context with another wish of exceptions -/
abbrev blkE (X : Cx) (s : Shared) (H : Hp) (scope : Scope) (cenv : Env) (fp : List Addr) (xe : Value → Shared → Prop) : Cx := { X.blk s H scope cenv fp with xe := xe }
section
variable {X : Cx} {pins : List (Addr × Obj)} {σ : St} {H : Hp} {s : Shared}
/-- a call's exception, on the ground: the state without it -/
theorem of_callF {Y : Cx} {u : Value} {s' : Shared} {E : XK} (I : Inv Y pins σ H s) (c : CX Y.prog Y.w Y.stack H s E u s') :
    ∃ (a : Addr) (B : Heap) (sI : Shared) (H' : Hp) (cls : Value) (d : Option Addr), u = .ref a ∧ Inv Y pins σ H' sI ∧ (∀ b o, sI.heap.get? b = some o → b ∉ frs Y.stack → B.get? b = some o) ∧ sI.heap.UpToSlots s'.heap ∧
      HandSPX.FlyingZ B Y.stack a (Zc cls d) s'.heap ∧ H' a = none ∧ s'.os = sI.os ∧ AllBare s'.gens ∧ E cls d H' := by
  obtain ⟨a, B, H', cls, d, rfl, fl, hok, ub, na, os, ag, hE⟩ := c
  have st : B.StaysIn s'.heap := fl.1
  obtain ⟨G, g1, g2⟩ := restrict s'.heap fun b => (B.get? b).isSome || decide (b ∈ frs Y.stack)
  have inB : ∀ b o, B.get? b = some o → G.get? b = some o := fun b o e => by
    rw [g1 b (by simp [e])]
    exact st b o e
  have inF : ∀ b, b ∈ frs Y.stack → G.get? b = s'.heap.get? b := fun b hb => g1 b (by simp [hb])
  have out : ∀ b o, G.get? b = some o → s'.heap.get? b = some o ∧ ((B.get? b).isSome = true ∨ b ∈ frs Y.stack) := fun b o e => by
    by_cases q : ((B.get? b).isSome || decide (b ∈ frs Y.stack)) = true
    · rw [g1 b q] at e
      exact ⟨e, by simpa [Bool.or_eq_true] using q⟩
    · rw [g2 b (by simpa using q)] at e
      cases e
  refine ⟨a, B, { s with heap := G, gens := s'.gens, drawn := s'.drawn, toks := s'.toks }, H', cls, d, rfl, ?_, fun b o e hb => ?_, Heap.UpToSlots.of_keeps fun b o e => (out b o e).1, fl, na, os, ag, hE⟩
  · refine I.call (ch := []) ⟨fun b o e n hb _ => inB b o (ub.keep b o e n hb), fun b o e n hb _ => ?_, fun b o e n _ => ub.free b o e n, fun b o e _ => ?_, ub.tups, ub.frzs, ub.tbls⟩ (hok.kept inB) ag (fun _ z => nomatch z)
    · obtain ⟨sl, q⟩ := ub.slot b o e hb
      exact ⟨sl, by rw [inF b hb]; exact q⟩
    · by_cases hb : b ∈ frs Y.stack
      · obtain ⟨sl, q⟩ := ub.slot b o e hb
        exact ⟨_, by rw [inF b hb]; exact q⟩
      · obtain ⟨o', q⟩ := ub.there b o e hb
        exact ⟨o', inB b o' q⟩
  · obtain ⟨e', h⟩ := out b o e
    rcases h with h | h
    · obtain ⟨o', q⟩ := Option.isSome_iff_exists.mp h
      have z := st b o' q
      rw [e'] at z
      cases z
      exact q
    · exact absurd h hb
/-- out of the block: the exception of a call in it is what the comprehension owes -/
theorem blk_passes {scope : Scope} {cl : List (Str × Addr)} {fp : List Addr} {E : XK} {xe : Value → Shared → Prop} (hst : X.stack = X.env :: X.outer) (hf : X.env.frame = some X.env.locals) (tk : Takes X (fun cls d _ H => E cls d H))
    (I3 : Inv X pins σ H s) (f3 : ∀ b ∈ fp, FpOk X pins H b ∧ b < s.heap.objs.size)
    (hxe : xe = notedBy (model X.prog X.w) X.A (compEnvC scope cl s.heap.objs.size X.env) (CompFails (model X.prog X.w) X.A X.xe (compEnvC scope cl s.heap.objs.size X.env))) :
    Passes (L2.CX X.prog X.w) (blkE X s H scope (compEnvC scope cl s.heap.objs.size X.env) fp xe) E := by
  intro pins' σ' H0 s0 e s' I c
  obtain ⟨a, B, sI, H', cls, d, rfl, J, nb, up, fl, na, os, ag, hE⟩ := of_callF I c
  have fl : HandSPX.FlyingZ B (X.env :: X.outer) a (Zc cls d) s'.heap := by rw [← hst]; exact fl
  have nb : ∀ b o, sI.heap.get? b = some o → b ∉ frs X.stack → B.get? b = some o := nb
  show xe (.ref a) s'
  rw [hxe]
  generalize hC : s.heap.objs.size = C at I J hxe ⊢
  have cL : (compEnvC scope cl C X.env).locals = C := rfl
  have cF : (compEnvC scope cl C X.env).frame = X.env.frame := rfl
  have hfr : X.A.frames = some (X.env :: X.outer) := by rw [I3.ok.frames, hst]
  -- the block's dict stands on the ground
  obtain ⟨m, hn, _⟩ := J.loc
  have hn : sI.heap.Ns C m := hn
  have nC : C ∉ frs X.stack := fun hm => by
    obtain ⟨_, o, ho, _⟩ := I3.stack.mem hm
    have h1 := Heap.lt_size ho
    rw [hC] at h1
    exact Nat.lt_irrefl _ h1
  have hC0 : H' C = none := J.free
  have sC : s.heap.get? C = none := by rw [← hC]; exact Heap.get?_none_of_le (Nat.le_refl _)
  show wpAny _ X.A (noteFrame (.ref a) (compEnvC scope cl C X.env)) _ _ s'
  rw [noteFrame_env _ cF]
  refine HandSPX.looks_onZ Zc.steady hfr hf fl fun h1 hh up1 => ?_
  obtain ⟨stB, nBa, ff1, tr1⟩ := hh
  obtain ⟨oC, es, ep, hoC, rest⟩ := id hn
  have hC1 : h1.get? C = some oC := stB C oC (nb C oC hoC nC)
  refine ⟨m, ⟨oC, es, ep, hC1, rest⟩, fun h2 m2 hn2 sb => ?_⟩
  have sb : Heap.SameBut C h1 h2 := sb
  -- the ground without the block's dict
  obtain ⟨B2, b1, b2⟩ := restrict B fun b => decide (b ≠ C)
  have b2B : ∀ b o, B2.get? b = some o → B.get? b = some o ∧ b ≠ C := fun b o e => by
    by_cases h : b = C
    · rw [b2 b (by simp [h])] at e
      cases e
    · rw [b1 b (by simp [h])] at e
      exact ⟨e, h⟩
  have bB2 : ∀ b o, b ≠ C → B.get? b = some o → B2.get? b = some o := fun b o h e => by
    rw [b1 b (by simp [h])]
    exact e
  have stB2 : B2.StaysIn h2 := fun b o e => by
    obtain ⟨e1, hb⟩ := b2B b o e
    exact (sb.2 b hb).trans (stB b o e1)
  have noB2 : ∀ b, B.get? b = none → B2.get? b = none := fun b e => by
    cases q : B2.get? b with
    | none => rfl
    | some o =>
      rw [(b2B b o q).1] at e
      cases e
  have frC : ∀ L ∈ frs (X.env :: X.outer), L ≠ C := fun L hL e => nC (by rw [hst]; rw [← e]; exact hL)
  have ff2 : h2.FunFrames B2 (X.env :: X.outer) := by
    have q := Heap.FunFrames.sameBut sb hn2 ff1
    exact funFrames_none q fun L hL => noB2 L (ff1.mem hL).1
  have aC : a ≠ C := fun e => by
    rw [e, nb C oC hoC nC] at nBa
    cases nBa
  have tr2 : HandSPX.TracedZ h2 B2 a (Zc cls d) (rawInt X.env.locals) := by
    obtain ⟨oe, vs, T, oT, ts, he, hz, hd, q1, hnT, hTe, hT, hdT, q3⟩ := tr1
    have TC : T ≠ C := fun e => by
      rw [e, nb C oC hoC nC] at hnT
      cases hnT
    exact ⟨oe, vs, T, oT, ts, (sb.2 a aC).trans he, hz, hd, q1, noB2 T hnT, hTe, (sb.2 T TC).trans hT, hdT, q3⟩
  unfold PySem.passOn
  obtain ⟨oe, vs, T, oT, ts, he, hz, hd, q1, _⟩ := id tr2
  refine wpAny_bind (wpAny_field he hd q1 ?_)
  rw [if_neg (show ¬ ((Value.ref T == Value.none) = true) from by simp), cF, hf]
  have fin : wpAny (model X.prog X.w) X.A (setFlight (.ref a) (some X.env.locals)) (fun _ s4 => wpAny (model X.prog X.w) X.A (throw (.ref a) : Sem Value) (fun _ _ => False) X.xe s4) X.xe { s' with heap := h2 } := by
    refine HandSPX.setFlight_anyZ stB2 ff2 tr2 fun h3 st3 ff3 tr3 up3 => wpAny_throw (tk _ _ ?_)
    -- the def's own state
    obtain ⟨G, g1, g2⟩ := restrict sI.heap fun b => decide (b ≠ C)
    have gk : ∀ b o, b ≠ C → sI.heap.get? b = some o → G.get? b = some o := fun b o h e => by
      rw [g1 b (by simp [h])]
      exact e
    have gs : ∀ b o, G.get? b = some o → sI.heap.get? b = some o ∧ b ≠ C := fun b o e => by
      by_cases h : b = C
      · rw [g2 b (by simp [h])] at e
        cases e
      · rw [g1 b (by simp [h])] at e
        exact ⟨e, h⟩
    have old : ∀ b o, s.heap.get? b = some o → b ≠ C := fun b o e h => by
      rw [h, sC] at e
      cases e
    have Ub := J.base
    have U : Un (frs X.stack) fp H H' s.heap G :=
      ⟨fun b o e n hb hx => gk b o (old b o e) (Ub.keep b o e n hb hx), fun b o e n hb hx => by
        obtain ⟨sl, q⟩ := Ub.slot b o e n hb hx
        exact ⟨sl, gk b _ (old b o e) q⟩, Ub.free, fun b o e hx => by
        obtain ⟨o', q⟩ := Ub.there b o e hx
        exact ⟨o', gk b o' (old b o e) q⟩, Ub.tups, Ub.frzs, Ub.tbls⟩
    have hok : HOk X.prog X.w H' G := fun b o e => (J.hok b o e).stay (fun x v hx q => gk x v (fun z => by
      rcases hx with hx | hx
      · rw [← hx, z, hC0] at e
        cases e
      · rw [z, hC0] at hx
        cases hx) q) (fun _ q => q) fun _ _ q => q
    have K0 : Inv X pins σ H' { sI with heap := G } := I3.call' (ch := fp) (s' := { sI with heap := G }) J.os U hok J.bare fun b hb => ⟨(f3 b hb).1.2.2.2.1, (f3 b hb).1.2.1, (f3 b hb).1.2.2.2.2.1, (f3 b hb).1.2.2.2.2.2⟩
    refine ⟨a, B2, { sI with heap := G }, pins, σ, H', cls, d, rfl, K0, fun b o e hb => ?_, fun b o e hnf => ?_, .inr (.inr ⟨st3, noB2 a nBa, ?_, tr3⟩), na, os, ag, hE⟩
    · obtain ⟨e1, hbC⟩ := gs b o e
      exact bB2 b o hbC (nb b o e1 hb)
    · obtain ⟨e1, hbC⟩ := gs b o e
      obtain ⟨sl1, k1⟩ := up b o e1 hnf
      obtain ⟨sl2, k2⟩ := up1 b _ k1 hnf
      obtain ⟨sl3, k3⟩ := up3 b _ ((sb.2 b hbC).trans k2) hnf
      exact ⟨sl3, k3⟩
    · rw [hst]
      exact ff3
  first
    | exact wpAny_bind (wpAny_pure (wpAny_bind fin))
    | exact wpAny_bind fin
/-- y = [elt for target in iter] on one line, y a local; the element may let out what Ex says -/
theorem ps_setLcX {i : Nat} {y : Str} {py : Pos} {elt tg iter : Expr} {scope : Scope} {own : List (Str × Nat)} {pos spos : Pos} {wi : TI} {g : TG} {te : TE} {Ex : XK} (hst : X.stack = X.env :: X.outer) (hf : X.env.frame = some X.env.locals)
    (tk : Takes X (fun cls d _ H => Ex cls d H)) (hc : X.calm = true) (hN : X.N.Nodup) (hy : X.N[i]? = some y) (hyl : X.env.scope.names.lookup y = some .local)
    (hsw : swapsWith (.ListComp elt [⟨tg, iter, [], 0⟩] scope pos) (some (.Name y py)) spos.line X.env = pure true) (hi : PI X tg iter wi) (ok : BlkOk X.N X.env.scope scope own)
    (hg : ∀ (s : Shared) (H : Hp) (C : Addr) (cl : List (Str × Addr)) (fp : List Addr) (xe : Value → Shared → Prop), PG (blkE X s H scope (compEnvC scope cl C X.env) fp xe) tg g)
    (he : ∀ (s : Shared) (H : Hp) (C : Addr) (cl : List (Str × Addr)) (fp : List Addr) (xe : Value → Shared → Prop), Passes (L2.CX X.prog X.w) (blkE X s H scope (compEnvC scope cl C X.env) fp xe) Ex → PE (blkE X s H scope (compEnvC scope cl C X.env) fp xe) elt te)
    (hs : ∀ x, foldedSetIterable iter X.env x = pure x := by intro _; rfl) :
    PS X (.Assign [.Name y py] (.ListComp elt [⟨tg, iter, [], 0⟩] scope pos) spos) (tAsg (tLc wi g tYes te (own.map (·.2))) (gName i)) := by
  refine ⟨fun pins s σ H D0 I h => ?_⟩
  rw [exec_Assign_Name_used _ _ _ _ hsw]
  refine wpAny_bind (wpAny_standAt (wpAny_bind ?_))
  show wpAny _ X.A (do let _ ← comprehension (.ListComp elt [⟨tg, iter, [], 0⟩] scope pos) scope X.env (firstIterPos [⟨tg, iter, [], 0⟩] pos) (newList []) false (eval iter X.env) (some (assign (.Name y py) X.env))) _ _ s
  have h : tLc wi g tYes te (own.map (·.2)) σ H (fun x H1 => gName i x σ H1 D0.nx) := h
  refine wpAny_bind (thn (Q := fun _ s' => SP X pins D0 .next s') ?_ fun _ s' hq => wpAny_pure (wpAny_pure hq))
  have hfree : ∀ z ∈ scope.names, z.2 = .free → ∃ c, X.env.cells.lookup z.1 = some c := fun z hz e => by
    rcases ok.free z hz e with k | k
    · exact I.ok.has _ (.inl k)
    · exact I.ok.has _ (.inr k)
  refine comprehension_at (use := some (assign (.Name y py) X.env)) rfl hs (closure_ok hfree) ok.kind (fun z hz e => by rw [ok.uniq z hz, e])
    (thn (hi.run pins s σ H _ I h) fun xv s1 hx => thn hx fun itv s2 h2 => ?_)
  obtain ⟨it, fp, tn, J, H2, e, I2, T, st2, f2, q⟩ := h2
  subst e
  refine wpAny_newObj_type (newEnv_comp ?_) (by show 0 ≤ sizeLine; decide)
  generalize hD : s2.heap.objs.size = D
  have nD : H2 D = none := I2.hok.fresh (Nat.le_of_eq hD)
  obtain ⟨W, ⟨m0, w0⟩, turn⟩ := q D nD
  generalize hs3 : ({ s2 with heap := s2.heap.push { cls := .type "list", data := .seq ([] : List Value).toArray } } : Shared) = s3
  have h3 : s3.heap = s2.heap.push { cls := .type "list", data := .seq ([] : List Value).toArray } := by rw [← hs3]
  have I3 : Inv X pins σ (upd H2 D (.lst [])) s3 := by
    rw [← hs3]
    refine I2.laid (t' := s2.toks) (fun b o e => Heap.get?_push_of_some _ e) (Nat.le_of_eq hD) ⟨Nat.zero_le _, [], 0, .nil, ?_⟩
    rw [← hD]
    exact Heap.get?_push_size _ rfl
  have f3 : ∀ b ∈ fp, FpOk X pins (upd H2 D (.lst [])) b ∧ b < s3.heap.objs.size := fun b hb => by
    obtain ⟨o, e, _⟩ := T.obj _ _ st2 b hb
    have hlt := Heap.lt_size e
    refine ⟨⟨?_, (f2 b hb).2⟩, by rw [h3, Heap.size_push]; exact Nat.lt_succ_of_lt hlt⟩
    rw [upd_ne (by rw [← hD]; exact Nat.ne_of_lt hlt)]
    exact (f2 b hb).1
  have st3 : tn 0 s3.heap := T.keep _ _ _ st2 fun b _ o e => by rw [h3]; exact Heap.get?_push_of_some _ e
  have I4 := block_start I3 ok hN f3
  show codeAny _ _ (.compStart (.ListComp elt [⟨tg, iter, [], 0⟩] scope pos) 0 (.ref it) (.ref D) (compEnvC scope (cellsFrom (s3.heap.objs.size + 1) scope.names (cloFrom X.env.cells scope.names [])) s3.heap.objs.size X.env))
    (compEnds (model X.prog X.w) X.A X.xe (some (assign (.Name y py) X.env)) (fun _ s' => SP X pins D0 .next s') (.ref D) (compEnvC scope (cellsFrom (s3.heap.objs.size + 1) scope.names (cloFrom X.env.cells scope.names [])) s3.heap.objs.size X.env)) { s3 with heap := pushCells (s3.heap.push { cls := .type "dict", data := .dict #[] }) scope.names }
  generalize hcl : cellsFrom (s3.heap.objs.size + 1) scope.names (cloFrom X.env.cells scope.names []) = cl at I4 ⊢
  obtain ⟨xe, hxe⟩ : ∃ xe, xe = notedBy (model X.prog X.w) X.A (compEnvC scope cl s3.heap.objs.size X.env) (CompFails (model X.prog X.w) X.A X.xe (compEnvC scope cl s3.heap.objs.size X.env)) := ⟨_, rfl⟩
  have pass : Passes (L2.CX X.prog X.w) (blkE X s3 (upd H2 D (.lst [])) scope (compEnvC scope cl s3.heap.objs.size X.env) fp xe) Ex := blk_passes hst hf tk I3 f3 hxe
  have pg := hg s3 (upd H2 D (.lst [])) s3.heap.objs.size cl fp xe
  have pe := he s3 (upd H2 D (.lst [])) s3.heap.objs.size cl fp xe pass
  have I4 : Inv (blkE X s3 (upd H2 D (.lst [])) scope (compEnvC scope cl s3.heap.objs.size X.env) fp xe) [] (wipe σ (own.map (·.2))) (upd H2 D (.lst [])) { s3 with heap := pushCells (s3.heap.push { cls := .type "dict", data := .dict #[] }) scope.names } := I4.wish xe
  have nfp : ∀ b ∈ fp, (upd H2 D (.lst [])) b = none := fun b hb => (f3 b hb).1.1
  have cL : (compEnvC scope cl s3.heap.objs.size X.env).locals = s3.heap.objs.size := rfl
  generalize hce : compEnvC scope cl s3.heap.objs.size X.env = ce at I4 pg pe hxe cL ⊢
  generalize hH3 : upd H2 D (.lst []) = H3 at I3 I4 pg pe w0 nfp f3
  generalize hs4 : ({ s3 with heap := pushCells (s3.heap.push { cls := .type "dict", data := .dict #[] }) scope.names } : Shared) = s4 at I4 ⊢
  have st4 : tn 0 s4.heap := T.keep _ _ _ st3 fun b _ o e => by rw [← hs4]; exact pushCells_keeps _ _ _ _ (Heap.get?_push_of_some _ e)
  have stat : ∀ {σ' : St} {H' : Hp} {s' : Shared}, Inv (blkE X s3 H3 scope ce fp xe) [] σ' H' s' → (∀ b ∈ fp, H' b = none) → ∀ b ∈ fp, FpOk (blkE X s3 H3 scope ce fp xe) [] H' b := fun {σ' H' s'} I' hn b hb =>
    ⟨hn b hb, (I'.ok.exf b hb).1, I'.ok.exfs b hb, .inl hb, fun x c e => (I'.ok.exf b hb).2 x c e, fun p hp => absurd (show p ∈ ([] : List (Addr × Obj)) ++ [] from hp) (by simp)⟩
  have exn : (notedBy (model X.prog X.w) X.A ce fun e s' => compEnds (model X.prog X.w) X.A X.xe (some (assign (.Name y py) X.env)) (fun _ s' => SP X pins D0 .next s') (.ref D) ce (.error e) s') = xe := by rw [hxe]; rfl
  have loop : codeAny (model X.prog X.w) X.A (.compLoop (.ListComp elt [⟨tg, iter, [], 0⟩] scope pos) 0 (.ref it) (.ref D) ce) (compEnds (model X.prog X.w) X.A X.xe (some (assign (.Name y py) X.env)) (fun _ s' => SP X pins D0 .next s') (.ref D) ce) s4 := by
    refine compLoop_any (fun n s' => ∃ i H', Inv (blkE X s3 H3 scope ce fp xe) [] (wipe σ (own.map (·.2))) H' s' ∧ tn i s'.heap ∧ (∀ b ∈ fp, H' b = none) ∧ W i n H') ?_ m0 ⟨0, H3, I4, st4, nfp, w0⟩
    rintro n s5 ⟨i', H5, I5, st5, n5, w5⟩
    rw [exn]
    rcases turn i' n H5 w5 with ⟨stop, qq⟩ | ⟨go, Nx, hNx, step⟩
    · refine thn (T.done (blkE X s3 H3 scope ce fp xe) rfl rfl rfl hc i' [] s5 _ H5 xe I5 (stat I5 n5) st5 stop) fun r s6 ⟨hr, I6⟩ => ?_
      subst hr
      have I7 : Inv X pins σ H5 s6 := I3.call' (ch := fp) I6.os I6.base I6.hok I6.bare fun b hb => ⟨(f3 b hb).1.2.2.2.1, (f3 b hb).1.2.1, (f3 b hb).1.2.2.2.2.1, (f3 b hb).1.2.2.2.2.2⟩
      have nC : H5 s3.heap.objs.size = none := by
        have z : H5 ce.locals = none := I6.free
        rw [cL] at z
        exact z
      obtain ⟨m, hn, _⟩ := I6.loc
      have hn : s6.heap.Ns ce.locals m := hn
      obtain ⟨f0, f1, f2', f3', f4, f5⟩ := I3.fpOk (Nat.le_refl _) nC
      show wpAny _ _ (assign (.Name y py) X.env (.ref D)) _ _ _
      refine wpAny_assign_Name (store_ok2 (v := V.ref D) I7 hN hy (.inl hyl) rfl (fun s7 I8 ⟨a, sb, ha⟩ => ?_) (.inr hyl))
      have nCa : ce.locals ≠ a := by
        rw [cL]
        rcases ha with z | z
        · rw [z]
          exact f1
        · exact fun e => f4 y a z e.symm
      refine ⟨m, hn.sameBut sb nCa, fun h4 sb4 => ?_⟩
      rw [cL] at sb4
      exact ⟨_, H5, I8.turned (t' := s7.toks) (fun b o hb e => (sb4.2 b hb).trans e) f0 f1 f3' f4 f5, qq⟩
    · refine thn (T.item (blkE X s3 H3 scope ce fp xe) rfl rfl rfl hc i' [] s5 _ H5 xe I5 (stat I5 n5) st5 go) fun r s6 ⟨u, hr, h6⟩ => ?_
      subst hr
      refine thn h6 fun _ s7 ⟨x, H7, I7, r7, y7, st7, n7⟩ => ?_
      have I7' := I7.pinned (stat I7 n7) (T.obj _ _ st7)
      refine thn (pg.run _ s7 _ H7 x u _ I7' r7 (step x H7 y7)) fun _ s8 ⟨σ8, H8, I8, hw8, q8⟩ => ?_
      have q8 : te σ8 H8 fun y H4 => ∃ acc, H4 D = some (.lst acc) ∧ acc.length < sizeLine ∧ Nx (upd H4 D (.lst (acc ++ [y]))) := q8
      refine wpAny_tests_nil ?_
      rw [if_pos rfl]
      refine thn (pe.run _ s8 σ8 H8 _ I8 q8) fun z s10 ⟨yv, H10, I10, r10, acc, hD10, hz10, nx⟩ => ?_
      refine app_ok (X := blkE X s3 H3 scope ce fp xe) I10 hD10 hz10 r10 fun s11 I11 => ?_
      obtain ⟨m', hm, w'⟩ := hNx _ nx
      have pin' : ∀ b ∈ fp, ∀ o, s7.heap.get? b = some o → s11.heap.get? b = some o ∧ (upd H10 D (.lst (acc ++ [yv]))) b = none := fun b hb o e =>
        let z := I11.pin (b, o) (List.mem_append_right _ (List.mem_append_right _ (mem_pinsAt hb e)))
        ⟨z.1, z.2.1⟩
      have hl : (wipe σ (own.map (·.2))).length = σ8.length := by rw [← hw8, wipe_length]
      refine ⟨m', hm, i' + 1, _, (I11.unpinned (pins := [])).weak hl (fun j v e => ?_), T.keep _ _ _ st7 fun b hb o e => (pin' b hb o e).1, fun b hb => ?_, w'⟩
      · rw [← hw8] at e
        exact (wipe_some e).1
      · obtain ⟨o, e, _⟩ := T.obj _ _ st7 b hb
        exact (pin' b hb o e).2
  exact codeAny_compStart_list loop (T.self X.A 0 _ _ _ st4 loop)
end
end Tk

set_option maxHeartbeats 4000000
/-! Defs that are called where no guard runs (str of a tuple asks it); str of data; a law's end for such a def. -/
namespace Tk
open PySem PySem.Spec PyProof.Rows L2
/-- as FnOk, where nothing that guards (a repr) runs around; nothing is let out -/
structure FnG (P : Program) (w : World) (K : PySem.W.Frag) (mg : Str → Option Value) (base : Heap) (k : Nat) (f : Addr) (fd : FuncData) (ps : List Str) (sp : Sp) : Prop where
  len : ∀ vs H Q E, sp vs H Q E → vs.length = ps.length
  run : ∀ (A : Around) (outer : List Env) (s : Shared) (H : Hp) (args : Args) (us : List Value) (vs : List V) (Q : VK) (E : XK), Room k A → A.guards = some [] → Env0 P w K mg base A outer s H →
    BindsTo s fd args (ps.zip us) → Vals vs us → sp vs H Q E → codeAny (model P w) A (.call (.ref f) args) (CR CX0 outer P w H s Q E) s
section
variable {P : Program} {w : World} {K : PySem.W.Frag} {mg : Str → Option Value} {base : Heap}
theorem okG {x qual : Str} {params : Arguments} {body : List Stmt} {scope : Scope} {dvs : List V} {kws : List (Str × V)} {f : Addr} {fd : FuncData} {N ps : List Str} {k : Nat} {sp : Sp} (F : FunD K x qual params body scope dvs kws f fd) (S : FnScope N ps scope)
    (len : ∀ vs H Q E, sp vs H Q E → vs.length = ps.length)
    (hbody : ∀ (cdv : Value) (A : Around) (outer : List Env) (s : Shared) (H : Hp) (vs : List V) (Q : VK) (E : XK), Room k (A.deeper (envOfC qual scope s.heap.objs.size f cdv)) → A.guards = some [] → sp vs H Q E →
      ∃ t, PSs (cxOf CX0 P w K mg base N qual scope f cdv A outer s H E) body t ∧ t { nx := fun _ H' => Q .non H', rt := Q } (start N vs) H) : FnG P w K mg base (k + 1) f fd ps sp := by
  obtain ⟨oc, od, dV, kV, doc, pm, an, cdv, ct, osl, rfl, lk, hcd, _, _⟩ := F.ex
  refine ⟨len, fun A outer s H args us vs Q E hr hg e0 hb r hsp => ?_⟩
  have stays : ∀ b o, base.get? b = some o → s.heap.get? b = some o := fun b o e => (e0.bs b o e).1
  have inK : K.In s.heap := e0.mod.kin.keeps stays
  refine codeAny_call_function hr.depth (inK _ _ lk) rfl S.co S.gen rfl (PySem.W.codeRec_of inK hcd) (hb _ _ _ _ ?_)
  have kinds : ∀ y ∈ ps.zip us, scope.names.lookup y.1 = some .local ∨ (scope.names.lookup y.1 = some .cell ∧ ((cellsFrom (s.heap.objs.size + 1) scope.names []).lookup y.1).isSome = true) := fun y hy =>
    (S.par y.1 (List.of_mem_zip (show (y.1, y.2) ∈ ps.zip us from hy)).1).elim .inl fun q => .inr ⟨q, PySem.W.cellsFrom_some _ _ _ (.inl q)⟩
  refine wpAny_newFunctionEnv_cells S.kind kinds fun env he s1 x => ?_
  subst he
  refine ⟨(e0.mod.nolimit.keeps stays).keeps x.toInCall.keep, codeAny_func ?_⟩
  obtain ⟨t, ht, hq⟩ := hbody cdv A outer s H vs Q E (hr.deeper _) hg hsp
  have I := inv_start (CX := CX0) (E := E) (N := N) (f := f) (qual := qual) S hr.hd e0 (len _ _ _ _ hsp) r x
  refine wpAny_mono (ht.run [] s1 (start N vs) H _ I hq) (fun fl s' hs => ?_) fun e s' hs => hs
  cases fl with
  | ret u =>
    obtain ⟨v, _, H', J, rv, q⟩ := hs
    exact ⟨v, H', J.os, J.bare, J.base, J.hok, rv, q⟩
  | next =>
    obtain ⟨_, H', J, q⟩ := hs
    exact ⟨V.non, H', J.os, J.bare, J.base, J.hok, rfl, q⟩
  | brk =>
    obtain ⟨_, _, _, q⟩ := hs
    exact q.elim
  | cont =>
    obtain ⟨_, _, _, q⟩ := hs
    exact q.elim
end
section
variable {X : Cx} {k : Nat} {f : Addr} {fd : FuncData} {ps : List Str} {sp : Sp} {x : Str} {p pos : Pos} {e : Expr} {es : List Expr} {t : TA}
/-- f(e, ..) of such a def -/
theorem pe_callG (F : FnG X.prog X.w X.K X.mg X.base k f fd ps sp) (hr : Room k X.A) (hG : X.A.guards = some []) (hg : Gl X x) (hm : X.mg x = some (.ref f)) (hk : PySem.W.keepIn X.K (.ref f) = true) (hb : Binds X.K fd ps [])
    (ha : PA X (e :: es) t) (hdb : (x == ("__debug__" : Str)) = false := by decide) (he : starEach (e :: es) X.env = (false, eval e X.env) :: starEach es X.env := by rfl) (hpl : (backTo pos (starEach es X.env)).any (·.1) = false := by rfl) :
    PE X (.Call (.Name x p) (e :: es) [] pos) (tCall sp [] E0 t) := by
  refine ⟨fun pins s σ H Q I h => ?_⟩
  refine wpAny_Call_Name_kw (ld_glob I hg hm ?_ hdb)
  refine PySem.W.callWith_K (h₀ := X.base) I.ok.mod.kin hk (thn (ha.run pos pins s σ H _ I h) fun us s1 ⟨vs, H1, I1, r, q⟩ => ⟨I1.kIn, ?_⟩) he hpl
  have r2 : Vals (vs ++ []) (us ++ []) := r.append .nil
  have hl : (us ++ []).length = ps.length := by rw [← r2.length]; exact F.len _ _ _ _ q
  refine wpAny_call (codeAny_mono (F.run X.A X.stack s1 H1 ⟨us, []⟩ (us ++ []) (vs ++ []) Q E0 hr hG I1.env0 (hb s1 us I1.kIn hl) r2 q) fun r' s' hq => ?_)
  cases r' with
  | error e => exact hq.elim
  | ok fl =>
    cases fl with
    | ret u => exact I1.after hq
    | next => exact hq.elim
    | brk => exact hq.elim
    | cont => exact hq.elim
/-- str(v) of data -/
def rStrD (K : PySem.W.Frag) : List V → Hp → VK → Prop := fun xs H Q => ∃ (a : Addr) (d : PyData), xs = [.ref a] ∧ Dp K H (.ref a) d ∧ d.showable = true ∧ d.hasDict = false ∧ d.depth ≤ 8 ∧ d.shown.length ≤ sizeLine ∧ Q (.str d.shown) H
theorem call_strD {j : Nat} (hr : Room j X.A) (hG : X.A.guards = some []) : CallR X (.type "str") (rStrD X.K) := by
  intro pins s σ H xs us Q I r h
  obtain ⟨a, d, rfl, hd, h1, h2, h3, h4, q⟩ := h
  obtain ⟨u, rfl, rx⟩ := vals1 r
  obtain rfl : u = .ref a := rx
  obtain ⟨as, rd⟩ := Dp.reads I d (.ref a) (.ref a) hd rfl
  refine str_of_reads rd h1 (PyData.noDict_hsm h2) hG (by have := hr.un; omega) (fun _ _ z => z) (fun h' u tk hk => ?_) h4
  exact ⟨.str d.shown, H, I.kept (t' := tk) hk, ⟨_, rfl⟩, q⟩
end
/-! ### a law whose def is such a one -/
theorem law_callG {P : Program} {w : World} {K : PySem.W.Frag} {mg mb : Str → Option Value} {k : Nat} {fa a : Addr} {fd : FuncData} {x : Str} {sp : Sp} {s : Shared} {vs : List Value} {ns : List Int}
    (KX : K.In s.heap) (hns : s.heap.Ns mainGlobals mg) (hb : s.heap.Ns builtinsNs mb) (hbb : ∀ x : Str, x ≠ "__name__" → mb x = bootBuiltins x) (hlim : s.heap.NoLimit) (hg : s.gens = #[])
    (ha : s.heap.get? a = some { cls := .type "list", data := .seq vs.toArray }) (hi : IntsAre vs ns) (hl : ns.length ≤ sizeLine) (hr : Room k callerA)
    (F : ∀ base : Heap, K.In base → base.Ns mainGlobals mg → FnG P w K mg base k fa fd [x] sp) (hbind : ∀ (s : Shared) (u : Value), BindsTo s fd ⟨[u], []⟩ [(x, u)])
    (hsp : ∀ H : Hp, Only H → SqL K H a (ns.map V.int) → sp [.ref a] H (fun v _ => v = .bl true) fun _ _ _ => False) :
    codeAny (model P w) callerA (.call (.ref fa) ⟨[.ref a], []⟩) (fun r s' => r = .ok (.ret (.bool true)) ∧ OldK s.heap s'.heap ∧ s'.os = s.os ∧ AllBare s'.gens) s := by
  have lens := hi.length
  have rel := vals_of_ints hi
  -- the one abstract heap that is asked: the script (where it is none of the written part's)
  have fromH : ∀ H : Hp, Only H → SqL K H a (ns.map V.int) → HOk P w H s.heap → (∀ b, H b ≠ none → b = a ∧ K.lookup a = none) →
      codeAny (model P w) callerA (.call (.ref fa) ⟨[.ref a], []⟩) (fun r s' => r = .ok (.ret (.bool true)) ∧ OldK s.heap s'.heap ∧ s'.os = s.os ∧ AllBare s'.gens) s := by
    intro H hO hS hok hA
    have ns_ : ∀ {b : Addr} {m : Str → Option Value}, s.heap.Ns b m → (hidT s.heap H).Ns b m := fun {b m} ⟨o, es, ep, e, d, r⟩ => by
      refine ⟨o, es, ep, hidT_get e ?_, d, r⟩
      cases q : H b with
      | none => rfl
      | some u =>
        have e' := (hA b (by rw [q]; exact Option.some_ne_none u)).1
        rw [e', ha] at e
        cases e
        cases d
    have kin : K.In (hidT s.heap H) := fun b o e => by
      refine hidT_get (KX b o e) ?_
      cases q : H b with
      | none => rfl
      | some u =>
        obtain ⟨e', z⟩ := hA b (by rw [q]; exact Option.some_ne_none u)
        rw [e', z] at e
        cases e
    obtain ⟨mc, lim1, lim2⟩ := hlim
    have e0 : Env0 P w K mg (hidT s.heap H) callerA [] s H := ⟨rfl, ⟨kin, ns_ hns, ⟨mb, ns_ hb, hbb⟩, ⟨mc, ns_ lim1, lim2⟩⟩, fun b o e => of_hidT e, Nat.le_of_eq (hidT_size _ _), trivial, fun b hb => (List.not_mem_nil hb).elim, hok, .of_eq hg⟩
    refine codeAny_mono ((F _ kin (ns_ hns)).run callerA [] s H ⟨[.ref a], []⟩ [.ref a] [.ref a] _ _ hr rfl e0 (hbind s (.ref a)) (.cons rfl .nil) (hsp H hO hS)) fun r s' h => ?_
    cases r with
    | error e => exact h.elim
    | ok fl =>
      cases fl with
      | next => exact h.elim
      | brk => exact h.elim
      | cont => exact h.elim
      | ret u =>
        obtain ⟨v, H', os, bare, un, hok', rv, q⟩ := h
        have q' : v = .bl true := q
        subst q'
        obtain rfl : u = Value.bool true := rv
        refine ⟨rfl, OldK.of_keep fun b o e => ?_, os, bare⟩
        rcases hO b with z | ⟨ob, xs, z⟩
        · exact un.keep b o e z (fun y => (List.not_mem_nil y).elim) (fun y => (List.not_mem_nil y).elim)
        · have e1 := (hok b _ z).1
          have e2 := (hok' b _ (un.frzs b ob _ z)).1
          rw [e] at e1
          rw [Option.some.inj e1]
          exact e2
  cases hk : K.lookup a with
  | some o =>
    have e := (KX a o hk).symm.trans ha
    cases e
    exact fromH (fun _ => none) (fun _ => .inl rfl) (.inr ⟨_, vs.toArray, _, hk, rfl, rfl, rfl, by rw [List.size_toArray, lens]; exact hl, by simpa using rel⟩) (fun b u z => nomatch (show (none : Option HO) = some u from z)) fun b z => absurd rfl z
  | none =>
    refine fromH (fun b => if b = a then some (.frz { cls := .type "list", data := .seq vs.toArray } (.lst (ns.map V.int))) else none) (fun b => ?_) (.inl (.inr ⟨_, if_pos rfl⟩)) (fun b u z => ?_) fun b z => ?_
    · by_cases e : b = a
      · exact .inr ⟨_, _, if_pos e⟩
      · exact .inl (if_neg e)
    · by_cases e : b = a
      · have z' := (if_pos e).symm.trans z
        cases z'
        subst e
        exact ⟨ha, by rw [List.length_map]; exact hl, vs, _, rel, ha⟩
      · exact nomatch (if_neg e).symm.trans z
    · by_cases e : b = a
      · exact ⟨e, hk⟩
      · exact absurd (if_neg e) z
theorem walk_ofG {l : PySem.W.OpenLaw} {n k : Nat} {q : Program} {loose : List Str} {XP : (Str → Option Value) → Heap → Prop} {YP : World → Heap → Prop} {d : DefRec} {x : Str}
    (hn : l.most = some n) (hn2 : n ≤ sizeLine) (hdf : d.params.defaults = []) (hr : Room k callerA)
    (F : ∀ (w : World) (mg : Str → Option Value) (fa : Addr) (h : Heap), YP w h → h.Ns mainGlobals mg → mg d.name = some (.ref fa) →
      ∃ (K : PySem.W.Frag) (fd : FuncData) (sp : Sp), K.In h ∧ (∀ (s : Shared) (u : Value), BindsTo s fd ⟨[u], []⟩ [(x, u)]) ∧
        (∀ (H : Hp) (a : Addr) (ns : List Int), ns.length ≤ n → Only H → SqL K H a (ns.map V.int) → sp [.ref a] H (fun v _ => v = .bl true) fun _ _ _ => False) ∧
        ∀ base : Heap, K.In base → base.Ns mainGlobals mg → FnG l.prog w K mg base k fa fd [x] sp) :
    PySem.W.WalkO q loose XP YP l.row.toRowW d [] (fun f vs => PySem.call f vs) := by
  refine Att.attach_call hn hdf fun w s₀ s₁ mg mb fa o pm cd doc a vs ns G Y ho hd hcd hmg hobj hints hlen hg => ?_
  obtain ⟨K, fd, sp, KX, hb, hsp, hF⟩ := F w mg fa _ Y G.T.g hmg
  exact law_callG KX G.T.g G.T.b G.T.builtins G.T.nolimit hg hobj hints (Nat.le_trans hlen hn2) hr hF hb fun H hO hS => hsp H a ns hlen hO hS
end Tk

set_option maxHeartbeats 4000000
/-! States (a day, the pots' days) as tuples in the heap, and dicts that are keyed by them. -/
namespace Tk
open PySem PySem.Spec PyProof.Rows L2
/-- a state -/
abbrev Stt := Int × List Int
/-- its key -/
def nk (s : Stt) : NestedKey := .tup [.num s.1, .tup (s.2.map .num)]
theorem num_inj : ∀ {a b : List Int}, a.map NestedKey.num = b.map NestedKey.num → a = b
  | [], [], _ => rfl
  | [], _ :: _, h => by cases h
  | _ :: _, [], h => by cases h
  | x :: a, y :: b, h => by
    injection h with h1 h2
    injection h1 with h1
    rw [h1, num_inj h2]
theorem nk_inj {s t : Stt} (h : nk s = nk t) : s = t := by
  obtain ⟨a, b⟩ := s
  obtain ⟨c, d⟩ := t
  unfold nk at h
  injection h with h
  injection h with h1 h2
  injection h2 with h2 h3
  injection h1 with h1
  injection h2 with h2
  have h1' : a = c := h1
  have h2' : b = d := num_inj h2
  rw [h1', h2']
theorem nk_depthAll : ∀ l : List Int, NestedKey.depthAll (l.map NestedKey.num) ≤ 1
  | [] => by simp [NestedKey.depthAll]
  | x :: l => by
    have := nk_depthAll l
    simp only [List.map_cons, NestedKey.depthAll, NestedKey.depth]
    omega
theorem nk_depth (s : Stt) : (nk s).depth ≤ 8 := by
  have := nk_depthAll s.2
  simp only [nk, NestedKey.depth, NestedKey.depthAll]
  omega
/-- v is the state s in the heap -/
def StA (H : Hp) (v : V) (s : Stt) : Prop := ∃ a b, v = .ref a ∧ H a = some (.tup [.int s.1, .ref b]) ∧ H b = some (.tup (s.2.map V.int))
theorem nested_ints {h : Heap} : ∀ {ns : List Int} {us : List Value}, Vals (ns.map V.int) us → NestedAll h (ns.map NestedKey.num) us
  | [], _, r => by
    cases r
    exact .nil
  | n :: ns, _, r => by
    cases r with
    | cons r1 r2 =>
      obtain ⟨t, rfl⟩ := r1
      exact .cons (.int n t) (nested_ints r2)
section
variable {X : Cx} {pins : List (Addr × Obj)} {σ : St} {H : Hp} {s : Shared} {a d : Addr} {st : Stt}
theorem StA.nested (I : Inv X pins σ H s) (h : StA H (.ref a) st) : (nestedKind X.prog X.w).is s.heap (nk st) a := by
  obtain ⟨a', b, e, h1, h2⟩ := h
  cases e
  obtain ⟨_, its, r, o, e1, c1, n, d1⟩ := (show ObjOk X.prog X.w H s.heap a (.tup [.int st.1, .ref b]) from I.hok a _ h1)
  obtain ⟨_, its2, r2, o2, e2, c2, n2, d2⟩ := (show ObjOk X.prog X.w H s.heap b (.tup (st.2.map V.int)) from I.hok b _ h2)
  refine ⟨?_, nk_depth st⟩
  cases r with
  | cons ra rb =>
    cases rb with
    | cons rc rd =>
      cases rd
      obtain ⟨t, rfl⟩ := ra
      cases rc
      exact .tup e1 c1 d1 (.cons (.int _ t) (.cons (.tup e2 c2 d2 (nested_ints r2)) .nil))
/-- entries: a key's state, the key's address, the value -/
abbrev Ens := List (Stt × Addr × V)
def EnRel : Ens → List (NestedKey × Addr × Value) → Prop := Paired fun p q => nk p.1 = q.1 ∧ p.2.1 = q.2.1 ∧ RelV p.2.2 q.2.2
/-- at d: a dict with the entries es -/
def DN (P : Program) (w : World) (d : Addr) (es : Ens) : HO := .ext fun h => ∃ xs, EnRel es xs ∧ (d == sysModules) = false ∧ ∃ o arr ep, h.get? d = some o ∧ o.ExactDict ∧ o.data = .dict arr ep ∧
  arr.toList = xs.map (entryOfKey (nestedKind P w)) ∧ (xs.map (·.1)).Nodup
def KeysAt (H : Hp) (es : Ens) : Prop := ∀ e ∈ es, StA H (.ref e.2.1) e.1
theorem DN.ok {P : Program} {w : World} {h : Heap} {xs : List (NestedKey × Addr × Value)} {es : Ens} (r : EnRel es xs) (hd : (d == sysModules) = false) (x : h.DictOfH (nestedKind P w) d xs) : ObjOk P w H h d (DN P w d es) := by
  obtain ⟨o, arr, ep, h1, h2, h3, h4, _, h6⟩ := x
  exact ⟨⟨xs, r, hd, o, arr, ep, h1, h2, h3, h4, h6⟩, ⟨o, h1⟩, fun g1 g2 z k => by
    obtain ⟨ys, r', hd', o', arr', ep', k1, k2⟩ := z
    exact ⟨ys, r', hd', o', arr', ep', k _ k1, k2⟩⟩
theorem keys_is (I : Inv X pins σ H s) : ∀ {es : Ens} {xs : List (NestedKey × Addr × Value)}, EnRel es xs → KeysAt H es → ∀ x ∈ xs, (nestedKind X.prog X.w).is s.heap x.1 x.2.1
  | _, _, .nil, _, x, hx => by cases hx
  | e :: es, y :: ys, .cons r t, k, x, hx => by
    rcases List.mem_cons.mp hx with z | z
    · subst z
      have q := StA.nested I (k e List.mem_cons_self)
      rw [r.1, r.2.1] at q
      exact q
    · exact keys_is I t (fun e' h => k e' (List.mem_cons_of_mem _ h)) x z
theorem DN.of {es : Ens} (I : Inv X pins σ H s) (hd : H d = some (DN X.prog X.w d es)) (hk : KeysAt H es) : (d == sysModules) = false ∧ ∃ xs, EnRel es xs ∧ s.heap.DictOfH (nestedKind X.prog X.w) d xs := by
  have z : ObjOk X.prog X.w H s.heap d (.ext fun h => ∃ xs, EnRel es xs ∧ (d == sysModules) = false ∧ ∃ o arr ep, h.get? d = some o ∧ o.ExactDict ∧ o.data = .dict arr ep ∧
    arr.toList = xs.map (entryOfKey (nestedKind X.prog X.w)) ∧ (xs.map (·.1)).Nodup) := I.hok d _ hd
  obtain ⟨⟨xs, r, h0, o, arr, ep, h1, h2, h3, h4, h5⟩, _⟩ := z
  exact ⟨h0, xs, r, o, arr, ep, h1, h2, h3, h4, keys_is I r hk, h5⟩
def lookS (es : Ens) (st : Stt) : Option V := (es.find? fun e => decide (e.1 = st)).map (·.2.2)
theorem look_rel (st : Stt) : ∀ {es : Ens} {xs : List (NestedKey × Addr × Value)}, EnRel es xs → RelO (lookS es st) ((atKey xs (nk st)).map (·.2))
  | _, _, .nil => trivial
  | e :: es, y :: ys, .cons r t => by
    by_cases h : e.1 = st
    · have h' : y.1 = nk st := by rw [← r.1, h]
      have e1 : lookS (e :: es) st = some e.2.2 := by simp [lookS, h]
      have e2 : atKey (y :: ys) (nk st) = some y.2 := by simp [atKey, h']
      rw [e1, e2]
      exact r.2.2
    · have h' : ¬ y.1 = nk st := fun z => h (nk_inj (by rw [r.1, z]))
      have e1 : lookS (e :: es) st = lookS es st := by simp [lookS, h]
      have e2 : atKey (y :: ys) (nk st) = atKey ys (nk st) := by simp [atKey, h']
      rw [e1, e2]
      exact look_rel st t
theorem look_some (st : Stt) {es : Ens} {xs : List (NestedKey × Addr × Value)} (r : EnRel es xs) : (atKey xs (nk st)).isSome = (lookS es st).isSome := by
  have q := look_rel st r
  cases e1 : lookS es st with
  | none =>
    rw [e1] at q
    cases e2 : atKey xs (nk st) with
    | none => rfl
    | some p =>
      rw [e2] at q
      exact q.elim
  | some v =>
    rw [e1] at q
    cases e2 : atKey xs (nk st) with
    | none =>
      rw [e2] at q
      exact q.elim
    | some p => rfl
theorem EnRel.app {es : Ens} {xs : List (NestedKey × Addr × Value)} (r : EnRel es xs) {v : V} {u : Value} (rv : RelV v u) : EnRel (es ++ [(st, a, v)]) (xs ++ [(nk st, a, u)]) := by
  induction r with
  | nil => exact .cons ⟨rfl, rfl, rv⟩ .nil
  | cons q _ ih => exact .cons q ih
theorem room8 {A : Around} (hu : A.units + 9 < cLine) {P : Program} {w : World} : (nestedKind P w).room A.in1 := by
  show A.units + 1 + 8 < cLine
  omega
/-! ### the rules -/
def rNotInN (P : Program) (w : World) : R2 := fun x y H Q => ∃ a d es st, x = .ref a ∧ y = .ref d ∧ H d = some (DN P w d es) ∧ KeysAt H es ∧ StA H x st ∧ Q (.bl (!(lookS es st).isSome)) H
theorem op_notInN (hu : X.A.units + 9 < cLine) : OpR X (compareOp .NotIn) (rNotInN X.prog X.w) := by
  intro pins s σ H x y v u Q I rx ry h
  obtain ⟨a, d, es, st, rfl, rfl, hd, hk, hs, q⟩ := h
  cases rx
  cases ry
  obtain ⟨h0, xs, r, x⟩ := DN.of I hd hk
  show wpAny _ _ (do return Value.bool (!(← contains (.ref d) (.ref a)))) _ _ s
  refine wpAny_bind (wpAny_contains_heap (room8 hu) (StA.nested I hs) h0 x (wpAny_pure ?_))
  rw [look_some st r]
  exact ⟨.bl _, H, I.tok _, rfl, q⟩
def rLenN (P : Program) (w : World) : List V → Hp → VK → Prop := fun xs H Q => ∃ d es, xs = [.ref d] ∧ H d = some (DN P w d es) ∧ KeysAt H es ∧ es.length ≤ 1000000 ∧ Q (.int (es.length : Nat)) H
theorem call_lenN : CallR X (.builtin "len") (rLenN X.prog X.w) := by
  intro pins s σ H xs us Q I r h
  obtain ⟨d, es, rfl, hd, hk, hz, q⟩ := h
  obtain ⟨u, rfl, rx⟩ := vals1 r
  obtain rfl : u = .ref d := rx
  obtain ⟨h0, xs, r, x⟩ := DN.of I hd hk
  have hl : es.length = xs.length := Paired.length r
  refine call_len_dictH h0 x (by rw [← hl]; omega) ?_
  rw [← hl]
  exact ⟨.int (es.length : Nat), H, I.tok _, ⟨_, rfl⟩, q⟩
variable {o i value : Expr} {pos pos' : Pos} {td ty tv : TE}
def tGetN (P : Program) (w : World) (td ty : TE) : TE := fun σ H Q => td σ H fun x H1 => ty σ H1 fun y H2 => ∃ d a es st v, x = .ref d ∧ y = .ref a ∧ H2 d = some (DN P w d es) ∧ KeysAt H2 es ∧ StA H2 y st ∧ lookS es st = some v ∧ Q v H2
theorem pe_getN (hu : X.A.units + 9 < cLine) (ho : PE X o td) (hi : PE X i ty) (hs : NoSl i) : PE X (.Subscript o i pos) (tGetN X.prog X.w td ty) := by
  refine ⟨fun pins s σ H Q I h => ?_⟩
  refine subD_of PySem.F.slot_dict_getitem.lookup hs (thn (ho.run pins s σ H _ I h) fun u s1 ⟨x, H1, I1, rx, q1⟩ => thn (hi.run pins s1 σ H1 _ I1 q1) fun iv s2 ⟨y, H2, I2, ry, d, a, es, st, v, ex, ey, hd, hk, hst, hl, q2⟩ => ?_)
  subst ex ey
  obtain rfl : u = Value.ref d := rx
  obtain rfl : iv = Value.ref a := ry
  obtain ⟨h0, xs, r, x⟩ := DN.of I2 hd hk
  have q := look_rel st r
  rw [hl] at q
  obtain ⟨u', e1, rv⟩ := RelO.some_of q
  obtain ⟨p, e2, e3⟩ := Option.map_eq_some_iff.mp e1
  refine ⟨x.typeIs, wpAny_getItem_heap (room8 hu) (StA.nested I2 hst) x e2 ?_⟩
  rw [e3]
  exact ⟨v, H2, I2.tok _, rv, q2⟩
def sPutN (P : Program) (w : World) (td ty tv : TE) : TS := fun D σ H => tv σ H fun v H1 => td σ H1 fun x H2 => ty σ H2 fun y H3 => ∃ d a es st, x = .ref d ∧ y = .ref a ∧ H3 d = some (DN P w d es) ∧ KeysAt H3 es ∧ StA H3 y st ∧ lookS es st = none ∧ es.length ≤ 1000000 ∧
  D.nx σ (upd H3 d (DN P w d (es ++ [(st, a, v)])))
theorem ps_putN (hu : X.A.units + 9 < cLine) (ho : PE X o td) (hi : PE X i ty) (hv : PE X value tv) (hs : swapsWith value (some (.Subscript o i pos')) pos.line X.env = pure false := by rfl) :
    PS X (.Assign [.Subscript o i pos'] value pos) (sPutN X.prog X.w td ty tv) := by
  refine ⟨fun pins s σ H D I h => ?_⟩
  refine wpAny_Assign_Subscript (thn (hv.run pins s σ H _ I h) fun r s1 ⟨v, H1, I1, rv, q1⟩ => thn (ho.run pins s1 σ H1 _ I1 q1) fun u s2 ⟨x, H2, I2, rx, q2⟩ => thn (hi.run pins s2 σ H2 _ I2 q2) fun iv s3 ⟨y, H3, I3, ry, d, a, es, st, ex, ey, hd, hk, hst, hl, hz, q3⟩ => ?_) hs
  subst ex ey
  obtain rfl : u = Value.ref d := rx
  obtain rfl : iv = Value.ref a := ry
  obtain ⟨h0, xs, rr, x⟩ := DN.of I3 hd hk
  have hn : atKey xs (nk st) = none := by
    have q := look_some st rr
    rw [hl] at q
    cases e : atKey xs (nk st) with
    | none => rfl
    | some p =>
      rw [e] at q
      cases q
  have hlen : es.length = xs.length := Paired.length rr
  refine wpAny_setItem_heap (hsz := by rw [← hlen, sizeLine_eq]; omega) (room8 hu) (StA.nested I3 hst) x fun h' x' sb => ?_
  rw [storedH_new hn] at x'
  have J := I3.write (t' := s3.toks + (nestedKind X.prog X.w).draws (nk st)) (x := d) (e := d) (o := DN X.prog X.w d (es ++ [(st, a, v)])) (by rw [hd]; exact True.intro) (.inl rfl) (fun b u hb q => (sb.2 b hb).trans q)
    (by obtain ⟨o', _, _, e', _⟩ := x'; exact ⟨o', e'⟩) (DN.ok (rr.app rv) h0 x')
  exact ⟨σ, _, J, q3⟩
def tNewN (P : Program) (w : World) : TE := fun _ H Q => ∀ d, H d = none → Q (.ref d) (upd H d (DN P w d []))
theorem pe_dnewN : PE X (.Dict [] [] pos) (tNewN X.prog X.w) := ⟨fun pins s σ H Q I h =>
  wpAny_Dict_empty ⟨.ref s.heap.objs.size, _, I.laid (a := s.heap.objs.size) (o := DN X.prog X.w s.heap.objs.size []) (t' := s.toks) (fun _ _ q => Heap.get?_push_of_some _ q) (Nat.le_refl _)
    (DN.ok .nil (beq_eq_false_iff_ne.mpr (Ne.symm (Nat.ne_of_lt I.big))) (Heap.DictOfH.new s.heap)), rfl, h _ (I.hok.fresh (Nat.le_refl _))⟩⟩
end
end Tk

set_option maxHeartbeats 4000000
/-! The mirror: gardens, states, days, plans in plain Lean, and their mathematics. -/
namespace Tk
open PySem L2
/-- a pot, told plainly: rest -1 is no cactus -/
structure Pt where
  name : Str
  gap : Int
  rest : Int
  deriving Inhabited
structure Gd where
  pots : List Pt
  cans : Int
  week : Int
  closed : Int
def five : List Str := ["ivy", "iv", "fern", "fernz", "a"]
def sizeI (g : Gd) : Int := g.pots.foldl (fun b p => b * p.gap) g.week
structure Gd.Ok (g : Gd) : Prop where
  n1 : 1 ≤ g.pots.length
  n3 : g.pots.length ≤ 3
  nd : (g.pots.map (·.name)).Nodup
  nm : ∀ p ∈ g.pots, p.name ∈ five
  gap : ∀ p ∈ g.pots, 1 ≤ p.gap ∧ p.gap ≤ 9
  rest : ∀ p ∈ g.pots, -1 ≤ p.rest ∧ p.rest < p.gap
  c0 : 0 ≤ g.cans ∧ g.cans ≤ 3
  w0 : 1 ≤ g.week ∧ g.week ≤ 14
  cl : 0 ≤ g.closed ∧ g.closed < 2 ^ g.week.toNat
  size : sizeI g ≤ 126
/-! ### the place of a name -/
def nameIx : List Pt → Str → Option Nat
  | [], _ => none
  | p :: ps, s => if p.name = s then some 0 else (nameIx ps s).map (· + 1)
theorem nameIx_some : ∀ {ps : List Pt} {s : Str} {k : Nat}, nameIx ps s = some k → ∃ p, ps[k]? = some p ∧ p.name = s ∧ ∀ (j : Nat) (q : Pt), j < k → ps[j]? = some q → q.name ≠ s
  | p :: ps, s, k, h => by
    unfold nameIx at h
    by_cases e : p.name = s
    · rw [if_pos e] at h
      cases h
      exact ⟨p, rfl, e, fun j q hj => absurd hj (Nat.not_lt_zero j)⟩
    · rw [if_neg e] at h
      obtain ⟨j, hj, rfl⟩ := Option.map_eq_some_iff.mp h
      obtain ⟨q, h1, h2, h3⟩ := nameIx_some hj
      refine ⟨q, h1, h2, fun i r hi hr => ?_⟩
      cases i with
      | zero =>
        cases (show some p = some r from hr)
        exact e
      | succ i => exact h3 i r (by omega) hr
theorem nameIx_none : ∀ {ps : List Pt} {s : Str}, nameIx ps s = none → ∀ p ∈ ps, p.name ≠ s
  | p :: ps, s, h, q, hq => by
    unfold nameIx at h
    by_cases e : p.name = s
    · rw [if_pos e] at h
      cases h
    · rw [if_neg e] at h
      have h' := Option.map_eq_none_iff.mp h
      rcases List.mem_cons.mp hq with z | z
      · rw [z]
        exact e
      · exact nameIx_none h' q z
theorem nameIx_lt {ps : List Pt} {s : Str} {k : Nat} (h : nameIx ps s = some k) : k < ps.length := by
  obtain ⟨p, hp, _⟩ := nameIx_some h
  exact (List.getElem?_eq_some_iff.mp hp).1
/-! ### states -/
def SinceOk : List Pt → List Int → Prop
  | [], [] => True
  | p :: ps, x :: xs => (0 ≤ x ∧ x < p.gap) ∧ SinceOk ps xs
  | _, _ => False
def StOk (g : Gd) (st : Stt) : Prop := 0 ≤ st.1 ∧ st.1 < g.week ∧ SinceOk g.pots st.2
theorem SinceOk.len : ∀ {ps : List Pt} {xs : List Int}, SinceOk ps xs → xs.length = ps.length
  | [], [], _ => rfl
  | _ :: _, _ :: _, h => by
    have := SinceOk.len h.2
    simp only [List.length_cons, this]
theorem SinceOk.at_ : ∀ {ps : List Pt} {xs : List Int} {k : Nat} {p : Pt}, SinceOk ps xs → ps[k]? = some p → ∃ x, xs[k]? = some x ∧ 0 ≤ x ∧ x < p.gap
  | p :: ps, x :: xs, 0, q, h, e => by
    cases (show some p = some q from e)
    exact ⟨x, rfl, h.1⟩
  | p :: ps, x :: xs, k + 1, q, h, e => SinceOk.at_ (k := k) h.2 e
theorem SinceOk.mk : ∀ {ps : List Pt} {xs : List Int}, xs.length = ps.length → (∀ (k : Nat) (p : Pt) (x : Int), ps[k]? = some p → xs[k]? = some x → 0 ≤ x ∧ x < p.gap) → SinceOk ps xs
  | [], [], _, _ => trivial
  | p :: ps, x :: xs, hl, h => ⟨h 0 p x rfl rfl, SinceOk.mk (by simpa using hl) fun k q y h1 h2 => h (k + 1) q y h1 h2⟩
  | [], _ :: _, hl, _ => by cases hl
  | _ :: _, [], hl, _ => by cases hl
def freshS (g : Gd) : Stt := (0, g.pots.map fun _ => 0)
theorem fresh_ok {g : Gd} (h : g.Ok) : StOk g (freshS g) := by
  refine ⟨Int.le_refl _, by have := h.w0.1; show (0 : Int) < g.week; omega, SinceOk.mk (by simp [freshS]) fun k p x h1 h2 => ?_⟩
  have e : x = 0 := by
    rw [show (freshS g).2 = g.pots.map fun _ => (0 : Int) from rfl, List.getElem?_map, h1] at h2
    exact (Option.some.inj h2).symm
  have := (h.gap p (List.mem_of_getElem? h1)).1
  omega
/-! ### numbers of states -/
def numL : List Pt → List Int → Int → Int
  | p :: ps, x :: xs, b => numL ps xs (b * p.gap + x)
  | _, _, b => b
def numI (g : Gd) (st : Stt) : Int := numL g.pots st.2 st.1
theorem numL_bd : ∀ {ps : List Pt} {xs : List Int} {b w : Int}, (∀ p ∈ ps, 1 ≤ p.gap) → SinceOk ps xs → 0 ≤ b → b < w → 0 ≤ numL ps xs b ∧ numL ps xs b < ps.foldl (fun b p => b * p.gap) w
  | [], [], b, w, _, _, h1, h2 => ⟨h1, h2⟩
  | p :: ps, x :: xs, b, w, hg, h, h1, h2 => by
    have gp := hg p List.mem_cons_self
    obtain ⟨⟨x0, x1⟩, hs⟩ := h
    have m1 : b * p.gap ≤ (w - 1) * p.gap := Int.mul_le_mul_of_nonneg_right (by omega) (by omega)
    have m2 : (w - 1) * p.gap = w * p.gap - p.gap := by rw [Int.sub_mul, Int.one_mul]
    have m3 : 0 ≤ b * p.gap := Int.mul_nonneg h1 (by omega)
    exact numL_bd (ps := ps) (xs := xs) (b := b * p.gap + x) (w := w * p.gap) (fun q hq => hg q (List.mem_cons_of_mem _ hq)) hs (by omega) (by omega)
theorem numI_bd {g : Gd} {st : Stt} (h : g.Ok) (hs : StOk g st) : 0 ≤ numI g st ∧ numI g st < sizeI g := numL_bd (fun p hp => (h.gap p hp).1) hs.2.2 hs.1 hs.2.1
theorem size_pos {g : Gd} (h : g.Ok) : 0 < sizeI g := by
  have := numI_bd h (fresh_ok h)
  omega
/-! ### pigeons -/
theorem nodup_le {α : Type} [DecidableEq α] : ∀ {l m : List α}, l.Nodup → (∀ x ∈ l, x ∈ m) → l.length ≤ m.length
  | [], _, _, _ => Nat.zero_le _
  | x :: l, m, hn, hs => by
    obtain ⟨h1, h2⟩ := List.nodup_cons.mp hn
    have hx := hs x List.mem_cons_self
    have e := List.length_erase_of_mem hx
    have pos : 0 < m.length := List.length_pos_of_mem hx
    have := nodup_le (l := l) (m := m.erase x) h2 fun y hy => (List.mem_erase_of_ne fun z => h1 (by rw [← z]; exact hy)).mpr (hs y (List.mem_cons_of_mem _ hy))
    simp only [List.length_cons]
    omega
def sinces : List Pt → List (List Int)
  | [] => [[]]
  | p :: ps => (List.range p.gap.toNat).flatMap fun (x : Nat) => (sinces ps).map fun xs => (x : Int) :: xs
theorem mem_sinces : ∀ {ps : List Pt} {xs : List Int}, SinceOk ps xs → xs ∈ sinces ps
  | [], [], _ => by simp [sinces]
  | p :: ps, x :: xs, h => by
    obtain ⟨⟨x0, x1⟩, hs⟩ := h
    refine List.mem_flatMap.mpr ⟨x.toNat, List.mem_range.mpr (by omega), List.mem_map.mpr ⟨xs, mem_sinces hs, ?_⟩⟩
    rw [Int.toNat_of_nonneg x0]
theorem sum_const {α : Type} (l : List α) (c : Nat) : (l.map fun _ => c).sum = l.length * c := by
  induction l with
  | nil => simp
  | cons a l ih => simp only [List.map_cons, List.sum_cons, List.length_cons, ih]; rw [Nat.succ_mul]; omega
theorem len_sinces : ∀ (ps : List Pt) (w : Int), 0 ≤ w → (∀ p ∈ ps, 1 ≤ p.gap) → (w.toNat * (sinces ps).length : Nat) = ps.foldl (fun b p => b * p.gap) w
  | [], w, h, _ => by
    simp only [sinces, List.length_cons, List.length_nil, List.foldl_nil]
    omega
  | p :: ps, w, h, hg => by
    have gp := hg p List.mem_cons_self
    have e : (sinces (p :: ps)).length = p.gap.toNat * (sinces ps).length := by
      show ((List.range p.gap.toNat).flatMap fun (x : Nat) => (sinces ps).map fun xs => (x : Int) :: xs).length = _
      rw [List.length_flatMap]
      simp only [List.length_map]
      rw [sum_const, List.length_range]
    rw [e, List.foldl_cons, ← len_sinces ps (w * p.gap) (Int.mul_nonneg h (by omega)) fun q hq => hg q (List.mem_cons_of_mem _ hq), ← Nat.mul_assoc]
    have : (w * p.gap).toNat = w.toNat * p.gap.toNat := by
      rw [Int.toNat_mul h (by omega)]
    rw [this]
def allSt (g : Gd) : List Stt := (List.range g.week.toNat).flatMap fun (d : Nat) => (sinces g.pots).map fun x => ((d : Int), x)
theorem mem_allSt {g : Gd} {st : Stt} (h : StOk g st) : st ∈ allSt g := by
  obtain ⟨d, xs⟩ := st
  obtain ⟨h1, h2, h3⟩ := h
  have h1 : 0 ≤ d := h1
  have h2 : d < g.week := h2
  refine List.mem_flatMap.mpr ⟨d.toNat, List.mem_range.mpr (by omega), List.mem_map.mpr ⟨xs, mem_sinces h3, ?_⟩⟩
  rw [Int.toNat_of_nonneg h1]
theorem met_le {g : Gd} (h : g.Ok) {l : List Stt} (hn : l.Nodup) (hs : ∀ st ∈ l, StOk g st) : l.length ≤ 126 := by
  have e1 := nodup_le hn fun st hst => mem_allSt (hs st hst)
  have e2 : (allSt g).length = g.week.toNat * (sinces g.pots).length := by
    unfold allSt
    rw [List.length_flatMap]
    simp only [List.length_map]
    rw [sum_const, List.length_range]
  have e3 := len_sinces g.pots g.week (by have := h.w0.1; omega) fun p hp => (h.gap p hp).1
  have e4 : g.pots.foldl (fun b p => b * p.gap) g.week ≤ 126 := h.size
  omega
/-! ### a day's choice: w tells which pots are watered, m how many -/
def gapAt (g : Gd) (k : Nat) : Int := (g.pots.getD k default).gap
def restAt (g : Gd) (k : Nat) : Int := (g.pots.getD k default).rest
def nameAt (g : Gd) (k : Nat) : Str := (g.pots.getD k default).name
def sinceAt (st : Stt) (k : Nat) : Int := st.2.getD k 0
theorem getD_of {α : Type} {l : List α} {k : Nat} {p d : α} (h : l[k]? = some p) : l.getD k d = p := by
  rw [List.getD_eq_getElem?_getD, h] <;> rfl
def closedB (g : Gd) (day : Int) : Bool := decide (Builtin.bitAnd (g.closed / 2 ^ day.toNat) 1 = 1)
def allowedM (g : Gd) (st : Stt) (w : Nat → Bool) (m : Nat) : Bool :=
  if (decide (0 < m) && (closedB g st.1 || decide (g.cans < (m : Int)))) = true then false else (List.range g.pots.length).all fun k => !w k || decide (restAt g k ≤ sinceAt st k)
def dryP (g : Gd) (st : Stt) (w : Nat → Bool) (k : Nat) : Bool := !w k && decide (sinceAt st k + 1 = gapAt g k)
def dryM (g : Gd) (st : Stt) (w : Nat → Bool) : Option Nat := (List.range g.pots.length).find? (dryP g st w)
def nextL (xs : List Int) (w : Nat → Bool) : List Int := xs.mapIdx fun k x => if w k = true then 0 else x + 1
def nextM (g : Gd) (st : Stt) (w : Nat → Bool) : Stt := ((st.1 + 1) % g.week, nextL st.2 w)
theorem nextL_at {xs : List Int} {w : Nat → Bool} {k : Nat} {x : Int} (h : xs[k]? = some x) : (nextL xs w)[k]? = some (if w k = true then 0 else x + 1) := by
  unfold nextL
  rw [List.getElem?_mapIdx, h]
  rfl
theorem next_ok {g : Gd} {st : Stt} {w : Nat → Bool} (h : g.Ok) (hs : StOk g st) (hd : dryM g st w = none) : StOk g (nextM g st w) := by
  have w1 := h.w0.1
  refine ⟨Int.emod_nonneg _ (by omega), Int.emod_lt_of_pos _ (by omega), SinceOk.mk ?_ fun k p x h1 h2 => ?_⟩
  · show (nextL st.2 w).length = _
    unfold nextL
    rw [List.length_mapIdx]
    exact hs.2.2.len
  · obtain ⟨y, hy, y0, y1⟩ := hs.2.2.at_ h1
    have e := nextL_at (w := w) hy
    have e2 : (nextL st.2 w)[k]? = some x := h2
    rw [e] at e2
    have e3 := Option.some.inj e2
    have nk := List.find?_range_eq_none.mp hd k (List.getElem?_eq_some_iff.mp h1).1
    have gp := (h.gap p (List.mem_of_getElem? h1)).1
    by_cases hw : w k = true
    · rw [if_pos hw] at e3
      omega
    · rw [if_neg hw] at e3
      have ne : sinceAt st k + 1 ≠ gapAt g k := fun z => by
        have : dryP g st w k = true := by
          unfold dryP
          rw [decide_eq_true z]
          simpa using hw
        rw [this] at nk
        cases nk
      have s1 : sinceAt st k = y := getD_of hy
      have s2 : gapAt g k = p.gap := by unfold gapAt; rw [getD_of h1]
      omega
/-! ### bits -/
def bitsRec : Nat → Nat → Nat → List Nat
  | 0, _, _ => []
  | f + 1, n, p => if n = 0 then [] else (if n % 2 = 1 then [p] else []) ++ bitsRec f (n / 2) (p + 1)
def bitsL (c : Nat) : List Nat := bitsRec c c 0
theorem bitsRec_fuel : ∀ (f f' n p : Nat), n ≤ f → n ≤ f' → bitsRec f n p = bitsRec f' n p
  | 0, f', n, p, h, _ => by
    have e : n = 0 := by omega
    subst e
    cases f' <;> simp [bitsRec]
  | f + 1, 0, n, p, _, h => by
    have e : n = 0 := by omega
    subst e
    simp [bitsRec]
  | f + 1, f' + 1, n, p, h, h' => by
    unfold bitsRec
    by_cases e : n = 0
    · rw [if_pos e, if_pos e]
    · rw [if_neg e, if_neg e, bitsRec_fuel f f' (n / 2) (p + 1) (by omega) (by omega)]
theorem bitsRec_step {n p : Nat} (h : 0 < n) : bitsRec n n p = (if n % 2 = 1 then [p] else []) ++ bitsRec (n / 2) (n / 2) (p + 1) := by
  cases n with
  | zero => omega
  | succ n =>
    show (if n + 1 = 0 then [] else (if (n + 1) % 2 = 1 then [p] else []) ++ bitsRec n ((n + 1) / 2) (p + 1)) = _
    rw [if_neg (by omega), bitsRec_fuel n ((n + 1) / 2) ((n + 1) / 2) (p + 1) (by omega) (Nat.le_refl _)]
theorem mem_bitsRec : ∀ (f n p k : Nat), n ≤ f → (k ∈ bitsRec f n p ↔ p ≤ k ∧ n.testBit (k - p) = true)
  | 0, n, p, k, h => by
    have e : n = 0 := by omega
    subst e
    simp [bitsRec]
  | f + 1, n, p, k, h => by
    unfold bitsRec
    by_cases e : n = 0
    · subst e
      simp
    · rw [if_neg e, List.mem_append, mem_bitsRec f (n / 2) (p + 1) k (by omega)]
      constructor
      · rintro (h1 | ⟨h1, h2⟩)
        · by_cases o : n % 2 = 1
          · rw [if_pos o] at h1
            have : k = p := by simpa using h1
            subst this
            refine ⟨Nat.le_refl _, ?_⟩
            rw [Nat.sub_self, Nat.testBit_zero]
            exact decide_eq_true o
          · rw [if_neg o] at h1
            cases h1
        · refine ⟨by omega, ?_⟩
          rw [show k - p = (k - (p + 1)) + 1 by omega, Nat.testBit_succ]
          exact h2
      · rintro ⟨h1, h2⟩
        by_cases hk : k = p
        · subst hk
          rw [Nat.sub_self, Nat.testBit_zero] at h2
          left
          rw [if_pos (of_decide_eq_true h2)]
          simp
        · right
          refine ⟨by omega, ?_⟩
          rw [show k - p = (k - (p + 1)) + 1 by omega, Nat.testBit_succ] at h2
          exact h2
theorem mem_bitsL {c k : Nat} : k ∈ bitsL c ↔ c.testBit k = true := by
  unfold bitsL
  rw [mem_bitsRec c c 0 k (Nat.le_refl _)]
  simp
theorem nodup_bitsRec : ∀ (f n p : Nat), n ≤ f → (bitsRec f n p).Nodup
  | 0, n, p, h => by simp [bitsRec]
  | f + 1, n, p, h => by
    unfold bitsRec
    by_cases e : n = 0
    · rw [if_pos e]
      exact List.nodup_nil
    · rw [if_neg e]
      have ih := nodup_bitsRec f (n / 2) (p + 1) (by omega)
      by_cases o : n % 2 = 1
      · rw [if_pos o]
        exact List.nodup_cons.mpr ⟨fun hm => by
          have := ((mem_bitsRec f (n / 2) (p + 1) p (by omega)).mp hm).1
          omega, ih⟩
      · rw [if_neg o]
        exact ih
theorem nodup_bitsL (c : Nat) : (bitsL c).Nodup := nodup_bitsRec c c 0 (Nat.le_refl _)
def maskOf (ws : List Nat) : Nat := ws.foldl (fun b k => b ||| 2 ^ k) 0
theorem maskOf_bit : ∀ (ws : List Nat) (b k : Nat), (ws.foldl (fun b k => b ||| 2 ^ k) b).testBit k = (b.testBit k || decide (k ∈ ws))
  | [], b, k => by simp
  | x :: ws, b, k => by
    rw [List.foldl_cons, maskOf_bit ws (b ||| 2 ^ x) k, Nat.testBit_or, Nat.testBit_two_pow]
    by_cases h : x = k
    · subst h
      simp
    · have h' : ¬ k = x := fun e => h e.symm
      simp [h, h']
theorem mask_bit (ws : List Nat) (k : Nat) : (maskOf ws).testBit k = decide (k ∈ ws) := by
  unfold maskOf
  rw [maskOf_bit]
  simp
theorem mask_fun (ws : List Nat) : (fun k => (maskOf ws).testBit k) = fun k => decide (k ∈ ws) := funext fun k => mask_bit ws k
theorem mask_len {ws : List Nat} (h : ws.Nodup) : (bitsL (maskOf ws)).length = ws.length := by
  have a := nodup_le (nodup_bitsL (maskOf ws)) (m := ws) fun k hk => by
    have := mem_bitsL.mp hk
    rw [mask_bit] at this
    exact of_decide_eq_true this
  have b := nodup_le h (m := bitsL (maskOf ws)) fun k hk => mem_bitsL.mpr (by rw [mask_bit]; exact decide_eq_true hk)
  omega
theorem mask_lt {ws : List Nat} {n : Nat} (h : ∀ k ∈ ws, k < n) : maskOf ws < 2 ^ n := by
  refine Nat.lt_pow_two_of_testBit _ fun i hi => ?_
  rw [mask_bit]
  exact decide_eq_false fun hm => absurd (h i hm) (by omega)
theorem bits_lt {c n : Nat} (h : c < 2 ^ n) {k : Nat} (hk : k ∈ bitsL c) : k < n := by
  have hb := mem_bitsL.mp hk
  by_cases hn : k < n
  · exact hn
  · have := Nat.testBit_lt_two_pow (x := c) (i := k) (Nat.lt_of_lt_of_le h (Nat.pow_le_pow_right (by decide) (by omega)))
    rw [this] at hb
    cases hb
/-- what the program's test of a bit says -/
theorem int_bit (c k : Nat) : Builtin.bitAnd (((c : Nat) : Int) / 2 ^ k) 1 = if c.testBit k = true then 1 else 0 := by
  have e : (((c : Nat) : Int) / 2 ^ k) = ((c / 2 ^ k : Nat) : Int) := by
    rw [show ((2 : Int) ^ k) = ((2 ^ k : Nat) : Int) by simp]
    rfl
  rw [e, PyProof.Rows.bitAnd_pp (Int.natCast_nonneg _) (by omega)]
  rw [Int.toNat_natCast, show ((1 : Int).toNat) = 1 from rfl, Nat.and_one_is_mod, Nat.testBit_eq_decide_div_mod_eq]
  have : c / 2 ^ k % 2 = 0 ∨ c / 2 ^ k % 2 = 1 := by omega
  rcases this with h | h <;> rw [h] <;> simp
end Tk

set_option maxHeartbeats 4000000
/-! The mirror of plans: a day by a row of names, a walk, the rounds. -/
namespace Tk
open PySem L2
/-- what a row may hold: a text, None, 3, ['ivy'] -/
def NameD (d : PyData) : Prop := (∃ s, PyData.strOk s = true ∧ d = .str s) ∨ d = .none ∨ d = .int 3 ∨ d = .list [.str "ivy"]
def RowD (row : List PyData) : Prop := row.length ≤ 1000 ∧ ∀ d ∈ row, NameD d
def RowsD (rows : List (List PyData)) : Prop := rows.length ≤ 10000 ∧ ∀ r ∈ rows, RowD r
def placeOf (g : Gd) : PyData → Option Nat
  | .str s => nameIx g.pots s
  | _ => none
/-- the places of a row's names; none where a name is no pot's -/
def placesM (g : Gd) : List PyData → Option (List Nat)
  | [] => some []
  | d :: r => match placeOf g d, placesM g r with
    | some k, some ks => some (k :: ks)
    | _, _ => none
inductive DayR where
  | none | bad | dry (n : Str) | ok (st : Stt)
def nodupB : List Nat → Bool
  | [] => true
  | k :: ks => !decide (k ∈ ks) && nodupB ks
theorem nodupB_iff : ∀ ws : List Nat, nodupB ws = true ↔ ws.Nodup
  | [] => by simp [nodupB]
  | k :: ks => by
    unfold nodupB
    rw [Bool.and_eq_true, nodupB_iff ks, List.nodup_cons]
    simp
def wetOf (ws : List Nat) : Nat → Bool := fun k => decide (k ∈ ws)
/-- a day whose places are known -/
def stepM (g : Gd) (st : Stt) (ws : List Nat) : DayR :=
  if nodupB ws = false then .bad else if allowedM g st (wetOf ws) ws.length = false then .bad else match dryM g st (wetOf ws) with
    | some k => .dry (nameAt g k)
    | none => .ok (nextM g st (wetOf ws))
def dayM (g : Gd) (st : Stt) (row : List PyData) : DayR := match placesM g row with
  | none => .none
  | some ws => stepM g st ws
inductive Out where
  | none (d : Int) | bad (d : Int) | dry (d : Int) (n : Str) | kept (st : Stt)
def walkM (g : Gd) : List (List PyData) → Stt → Int → Out
  | [], st, _ => .kept st
  | row :: rows, st, f => match dayM g st row with
    | .none => .none f
    | .bad => .bad f
    | .dry n => .dry f n
    | .ok st' => walkM g rows st' (f + 1)
inductive Res where
  | none (d : Int) | bad (d : Int) | dry (d : Int) (n : Str) | ever (k : Int)
def roundsM (g : Gd) (rows : List (List PyData)) : Nat → List Stt → Out → Int → Option Res
  | 0, _, _, _ => none
  | f + 1, met, o, at_ => match o with
    | .none d => some (.none d)
    | .bad d => some (.bad d)
    | .dry d n => some (.dry d n)
    | .kept st => if st ∈ met then some (.ever ((met.length : Int) - (met.idxOf st : Nat))) else roundsM g rows f (met ++ [st]) (walkM g rows st at_) (at_ + (rows.length : Nat))
def keptM (g : Gd) (lead rows : List (List PyData)) : Option Res := match walkM g lead (freshS g) 0 with
  | .none d => some (.none d)
  | .bad d => some (.bad d)
  | o => if rows = [] then some (.bad (lead.length : Nat)) else roundsM g rows 200 [] o (lead.length : Nat)
/-! ### where the days lie, what states come -/
def Out.okIn (g : Gd) (lo hi : Int) : Out → Prop
  | .none d => lo ≤ d ∧ d < hi
  | .bad d => lo ≤ d ∧ d < hi
  | .dry d _ => lo ≤ d ∧ d < hi
  | .kept st => StOk g st
theorem day_ok {g : Gd} {st : Stt} {row : List PyData} {st' : Stt} (h : g.Ok) (hs : StOk g st) (e : dayM g st row = .ok st') : StOk g st' := by
  unfold dayM at e
  split at e
  · cases e
  · rename_i ws _
    unfold stepM at e
    split at e
    · cases e
    · split at e
      · cases e
      · split at e
        · cases e
        · rename_i hd
          cases e
          exact next_ok h hs hd
theorem walk_ok {g : Gd} (h : g.Ok) : ∀ (rows : List (List PyData)) (st : Stt) (f : Int), StOk g st → (walkM g rows st f).okIn g f (f + (rows.length : Nat))
  | [], st, f, hs => hs
  | row :: rows, st, f, hs => by
    have key : ∀ o : Out, o.okIn g (f + 1) (f + 1 + (rows.length : Nat)) → o.okIn g f (f + ((row :: rows).length : Nat)) := fun o ho => by
      cases o with
      | kept st' => exact ho
      | none d => exact ⟨by have := ho.1; omega, by have := ho.2; simp only [List.length_cons]; omega⟩
      | bad d => exact ⟨by have := ho.1; omega, by have := ho.2; simp only [List.length_cons]; omega⟩
      | dry d n => exact ⟨by have := ho.1; omega, by have := ho.2; simp only [List.length_cons]; omega⟩
    show (match dayM g st row with
      | .none => Out.none f
      | .bad => .bad f
      | .dry n => .dry f n
      | .ok st' => walkM g rows st' (f + 1)).okIn g f _
    cases e : dayM g st row with
    | none => exact ⟨Int.le_refl _, by simp only [List.length_cons]; omega⟩
    | bad => exact ⟨Int.le_refl _, by simp only [List.length_cons]; omega⟩
    | dry n => exact ⟨Int.le_refl _, by simp only [List.length_cons]; omega⟩
    | ok st' => exact key _ (walk_ok h rows st' (f + 1) (day_ok h hs e))
def Res.small : Res → Prop
  | .none d => 0 ≤ d ∧ d ≤ 10000000
  | .bad d => 0 ≤ d ∧ d ≤ 10000000
  | .dry d _ => 0 ≤ d ∧ d ≤ 10000000
  | .ever k => 0 ≤ k ∧ k ≤ 10000000
theorem rounds_some {g : Gd} (h : g.Ok) {rows : List (List PyData)} (hr : rows.length ≤ 10000) : ∀ (f : Nat) (met : List Stt) (o : Out) (lo hi : Int), met.Nodup → (∀ st ∈ met, StOk g st) → 127 ≤ f + met.length → 0 < f → 0 ≤ lo →
    o.okIn g lo hi → lo ≤ hi → hi ≤ 10000 + 10000 * (met.length : Nat) + 10000 → ∃ r, roundsM g rows f met o hi = some r ∧ r.small
  | 0, _, _, _, _, _, _, _, h0, _, _, _, _ => absurd h0 (Nat.lt_irrefl 0)
  | f + 1, met, o, lo, hi, hn, hs, hf, _, h0, ho, hlh, hb => by
    have ml := met_le h hn hs
    cases o with
    | none d => exact ⟨_, rfl, by have := ho.1; omega, by have := ho.2; omega⟩
    | bad d => exact ⟨_, rfl, by have := ho.1; omega, by have := ho.2; omega⟩
    | dry d n => exact ⟨_, rfl, by have := ho.1; omega, by have := ho.2; omega⟩
    | kept st =>
      show ∃ r, (if st ∈ met then some (Res.ever ((met.length : Int) - (met.idxOf st : Nat))) else roundsM g rows f (met ++ [st]) (walkM g rows st hi) (hi + (rows.length : Nat))) = some r ∧ r.small
      by_cases e : st ∈ met
      · rw [if_pos e]
        have := List.idxOf_lt_length_of_mem e
        exact ⟨_, rfl, by omega, by omega⟩
      · rw [if_neg e]
        have hn' : (met ++ [st]).Nodup := by
          rw [List.nodup_append]
          exact ⟨hn, by simp, fun a ha b hb => by
            have hb' : b = st := by simpa using hb
            rw [hb']
            exact fun z => e (by rw [← z]; exact ha)⟩
        have hs' : ∀ s ∈ met ++ [st], StOk g s := fun s hm => by
          rcases List.mem_append.mp hm with z | z
          · exact hs s z
          · have : s = st := by simpa using z
            rw [this]
            exact ho
        have ml' := met_le h hn' hs'
        rw [List.length_append] at ml'
        simp only [List.length_cons, List.length_nil] at ml'
        refine rounds_some h hr f (met ++ [st]) (walkM g rows st hi) hi (hi + (rows.length : Nat)) hn' hs' (by rw [List.length_append]; simp only [List.length_cons, List.length_nil]; omega) (by omega) (by omega) (walk_ok h rows st hi ho) (by omega) ?_
        rw [List.length_append]
        simp only [List.length_cons, List.length_nil]
        omega
theorem kept_some {g : Gd} (h : g.Ok) {lead rows : List (List PyData)} (hl : lead.length ≤ 10000) (hr : rows.length ≤ 10000) : ∃ r, keptM g lead rows = some r ∧ r.small := by
  have hw := walk_ok h lead (freshS g) 0 (fresh_ok h)
  unfold keptM
  generalize walkM g lead (freshS g) 0 = o at hw
  cases o with
  | none d => exact ⟨_, rfl, hw.1, by have := hw.2; omega⟩
  | bad d => exact ⟨_, rfl, hw.1, by have := hw.2; omega⟩
  | dry d n =>
    show ∃ r, (if rows = [] then some (Res.bad (lead.length : Nat)) else roundsM g rows 200 [] (.dry d n) (lead.length : Nat)) = some r ∧ r.small
    by_cases e : rows = []
    · rw [if_pos e]
      exact ⟨_, rfl, by omega, by omega⟩
    · rw [if_neg e]
      exact rounds_some h hr 200 [] (.dry d n) 0 (lead.length : Nat) List.nodup_nil (fun _ hm => by cases hm) (by decide) (by decide) (Int.le_refl _) (by simpa using hw) (by omega) (by simp only [List.length_nil]; omega)
  | kept st =>
    show ∃ r, (if rows = [] then some (Res.bad (lead.length : Nat)) else roundsM g rows 200 [] (.kept st) (lead.length : Nat)) = some r ∧ r.small
    by_cases e : rows = []
    · rw [if_pos e]
      exact ⟨_, rfl, by omega, by omega⟩
    · rw [if_neg e]
      exact rounds_some h hr 200 [] (.kept st) 0 (lead.length : Nat) List.nodup_nil (fun _ hm => by cases hm) (by decide) (by decide) (Int.le_refl _) hw (by omega) (by simp only [List.length_nil]; omega)
/-! ### a walk, day by day: what is left -/
theorem walk_drop {g : Gd} {rows : List (List PyData)} {k : Nat} {row : List PyData} (e : rows[k]? = some row) (st : Stt) (f : Int) : walkM g (rows.drop k) st f = match dayM g st row with
    | .none => Out.none f
    | .bad => .bad f
    | .dry n => .dry f n
    | .ok st' => walkM g (rows.drop (k + 1)) st' (f + 1) := by
  obtain ⟨hk, hx⟩ := List.getElem?_eq_some_iff.mp e
  rw [List.drop_eq_getElem_cons hk, hx]
  rfl
end Tk

set_option maxHeartbeats 4000000
/-! What the facts of the top say, one theorem each (printed by gen_facts.py). -/
namespace Tk
open PySem PySem.Spec PyProof.Rows L2 He
structure Txt (K : PySem.W.Frag) (mg : Str → Option Value) : Prop where
  hp : ∃ h : Heap, K.In h ∧ h.Ns mainGlobals mg
  d : SaysD fa fns K
  ex : exB K = true
section
variable {K : PySem.W.Frag} {mg : Str → Option Value}
theorem Txt.g_bits_of (T : Txt K mg) : mg "bits_of" = some (.ref (ga K "bits_of")) := let ⟨_, X, G⟩ := T.hp; glo_ok X G (T.d.fact 0)
theorem Txt.g_allowed (T : Txt K mg) : mg "allowed" = some (.ref (ga K "allowed")) := let ⟨_, X, G⟩ := T.hp; glo_ok X G (T.d.fact 1)
theorem Txt.g_behind (T : Txt K mg) : mg "behind" = some (.ref (ga K "behind")) := let ⟨_, X, G⟩ := T.hp; glo_ok X G (T.d.fact 2)
theorem Txt.g_choices (T : Txt K mg) : mg "choices" = some (.ref (ga K "choices")) := let ⟨_, X, G⟩ := T.hp; glo_ok X G (T.d.fact 3)
theorem Txt.g_chosen_by (T : Txt K mg) : mg "chosen_by" = some (.ref (ga K "chosen_by")) := let ⟨_, X, G⟩ := T.hp; glo_ok X G (T.d.fact 4)
theorem Txt.g_names_of (T : Txt K mg) : mg "names_of" = some (.ref (ga K "names_of")) := let ⟨_, X, G⟩ := T.hp; glo_ok X G (T.d.fact 5)
theorem Txt.g_dry_pot (T : Txt K mg) : mg "dry_pot" = some (.ref (ga K "dry_pot")) := let ⟨_, X, G⟩ := T.hp; glo_ok X G (T.d.fact 6)
theorem Txt.g_followed (T : Txt K mg) : mg "followed" = some (.ref (ga K "followed")) := let ⟨_, X, G⟩ := T.hp; glo_ok X G (T.d.fact 7)
theorem Txt.g_kept (T : Txt K mg) : mg "kept" = some (.ref (ga K "kept")) := let ⟨_, X, G⟩ := T.hp; glo_ok X G (T.d.fact 8)
theorem Txt.g_kept_for_ever (T : Txt K mg) : mg "kept_for_ever" = some (.ref (ga K "kept_for_ever")) := let ⟨_, X, G⟩ := T.hp; glo_ok X G (T.d.fact 9)
theorem Txt.g_is_whole (T : Txt K mg) : mg "is_whole" = some (.ref (ga K "is_whole")) := let ⟨_, X, G⟩ := T.hp; glo_ok X G (T.d.fact 10)
theorem Txt.g_within (T : Txt K mg) : mg "within" = some (.ref (ga K "within")) := let ⟨_, X, G⟩ := T.hp; glo_ok X G (T.d.fact 11)
theorem Txt.g_is_name (T : Txt K mg) : mg "is_name" = some (.ref (ga K "is_name")) := let ⟨_, X, G⟩ := T.hp; glo_ok X G (T.d.fact 12)
theorem Txt.g_Pot (T : Txt K mg) : mg "Pot" = some (.ref (ga K "Pot")) := let ⟨_, X, G⟩ := T.hp; glo_ok X G (T.d.fact 13)
theorem Txt.g_Cactus (T : Txt K mg) : mg "Cactus" = some (.ref (ga K "Cactus")) := let ⟨_, X, G⟩ := T.hp; glo_ok X G (T.d.fact 14)
theorem Txt.g_Garden (T : Txt K mg) : mg "Garden" = some (.ref (ga K "Garden")) := let ⟨_, X, G⟩ := T.hp; glo_ok X G (T.d.fact 15)
theorem Txt.g_ahead_of (T : Txt K mg) : mg "ahead_of" = some (.ref (ga K "ahead_of")) := let ⟨_, X, G⟩ := T.hp; glo_ok X G (T.d.fact 16)
theorem Txt.g_table (T : Txt K mg) : mg "table" = some (.ref (ga K "table")) := let ⟨_, X, G⟩ := T.hp; glo_ok X G (T.d.fact 17)
theorem Txt.g_Lives (T : Txt K mg) : mg "Lives" = some (.ref (ga K "Lives")) := let ⟨_, X, G⟩ := T.hp; glo_ok X G (T.d.fact 18)
theorem Txt.g_rounds_of (T : Txt K mg) : mg "rounds_of" = some (.ref (ga K "rounds_of")) := let ⟨_, X, G⟩ := T.hp; glo_ok X G (T.d.fact 19)
theorem Txt.g_cell_at_L (T : Txt K mg) : mg "_law_cell_at" = some (.ref (ga K "_law_cell_at")) := let ⟨_, X, G⟩ := T.hp; glo_ok X G (T.d.fact 20)
theorem Txt.g_draw_L (T : Txt K mg) : mg "_law_draw" = some (.ref (ga K "_law_draw")) := let ⟨_, X, G⟩ := T.hp; glo_ok X G (T.d.fact 21)
theorem Txt.g_spec_L (T : Txt K mg) : mg "_law_spec" = some (.ref (ga K "_law_spec")) := let ⟨_, X, G⟩ := T.hp; glo_ok X G (T.d.fact 22)
theorem Txt.g_garden_L (T : Txt K mg) : mg "_law_garden" = some (.ref (ga K "_law_garden")) := let ⟨_, X, G⟩ := T.hp; glo_ok X G (T.d.fact 23)
theorem Txt.g_behind_L (T : Txt K mg) : mg "_law_behind" = some (.ref (ga K "_law_behind")) := let ⟨_, X, G⟩ := T.hp; glo_ok X G (T.d.fact 24)
theorem Txt.g_steps_L (T : Txt K mg) : mg "_law_steps" = some (.ref (ga K "_law_steps")) := let ⟨_, X, G⟩ := T.hp; glo_ok X G (T.d.fact 25)
theorem Txt.g_walked_L (T : Txt K mg) : mg "_law_walked" = some (.ref (ga K "_law_walked")) := let ⟨_, X, G⟩ := T.hp; glo_ok X G (T.d.fact 26)
theorem Txt.g_sorts_L (T : Txt K mg) : mg "_law_sorts" = some (.ref (ga K "_law_sorts")) := let ⟨_, X, G⟩ := T.hp; glo_ok X G (T.d.fact 27)
theorem Txt.g_refusal_L (T : Txt K mg) : mg "_law_refusal" = some (.ref (ga K "_law_refusal")) := let ⟨_, X, G⟩ := T.hp; glo_ok X G (T.d.fact 28)
theorem Txt.g_rows_L (T : Txt K mg) : mg "_law_rows" = some (.ref (ga K "_law_rows")) := let ⟨_, X, G⟩ := T.hp; glo_ok X G (T.d.fact 29)
theorem Txt.g_due_L (T : Txt K mg) : mg "_law_due" = some (.ref (ga K "_law_due")) := let ⟨_, X, G⟩ := T.hp; glo_ok X G (T.d.fact 30)
theorem Txt.g_right_L (T : Txt K mg) : mg "_law_right" = some (.ref (ga K "_law_right")) := let ⟨_, X, G⟩ := T.hp; glo_ok X G (T.d.fact 31)
theorem Txt.g_law (T : Txt K mg) : mg "law" = some (.ref (ga K "law")) := let ⟨_, X, G⟩ := T.hp; glo_ok X G (T.d.fact 32)
theorem Txt.g_BadPot (T : Txt K mg) : mg "BadPot" = some (.ref (ga K "BadPot")) := let ⟨_, X, G⟩ := T.hp; glo_ok X G (T.d.fact 33)
theorem Txt.g_TooMany (T : Txt K mg) : mg "TooMany" = some (.ref (ga K "TooMany")) := let ⟨_, X, G⟩ := T.hp; glo_ok X G (T.d.fact 34)
theorem Txt.g_NoPot (T : Txt K mg) : mg "NoPot" = some (.ref (ga K "NoPot")) := let ⟨_, X, G⟩ := T.hp; glo_ok X G (T.d.fact 35)
theorem Txt.g_BadDay (T : Txt K mg) : mg "BadDay" = some (.ref (ga K "BadDay")) := let ⟨_, X, G⟩ := T.hp; glo_ok X G (T.d.fact 36)
theorem Txt.g_BadRow (T : Txt K mg) : mg "BadRow" = some (.ref (ga K "BadRow")) := let ⟨_, X, G⟩ := T.hp; glo_ok X G (T.d.fact 37)
theorem Txt.g_NoState (T : Txt K mg) : mg "NoState" = some (.ref (ga K "NoState")) := let ⟨_, X, G⟩ := T.hp; glo_ok X G (T.d.fact 38)
theorem Txt.g_GardenError (T : Txt K mg) : mg "GardenError" = some (.ref (ga K "GardenError")) := let ⟨_, X, G⟩ := T.hp; glo_ok X G (T.d.fact 39)
theorem Txt.f_isinstance (T : Txt K mg) : mg "isinstance" = none := let ⟨_, X, G⟩ := T.hp; free_ok X G (T.d.fact 40)
theorem Txt.f_len (T : Txt K mg) : mg "len" = none := let ⟨_, X, G⟩ := T.hp; free_ok X G (T.d.fact 41)
theorem Txt.f_range (T : Txt K mg) : mg "range" = none := let ⟨_, X, G⟩ := T.hp; free_ok X G (T.d.fact 42)
theorem Txt.f_tuple (T : Txt K mg) : mg "tuple" = none := let ⟨_, X, G⟩ := T.hp; free_ok X G (T.d.fact 43)
theorem Txt.f_list (T : Txt K mg) : mg "list" = none := let ⟨_, X, G⟩ := T.hp; free_ok X G (T.d.fact 44)
theorem Txt.f_str (T : Txt K mg) : mg "str" = none := let ⟨_, X, G⟩ := T.hp; free_ok X G (T.d.fact 45)
theorem Txt.f_int (T : Txt K mg) : mg "int" = none := let ⟨_, X, G⟩ := T.hp; free_ok X G (T.d.fact 46)
theorem Txt.f_bool (T : Txt K mg) : mg "bool" = none := let ⟨_, X, G⟩ := T.hp; free_ok X G (T.d.fact 47)
theorem Txt.f_all (T : Txt K mg) : mg "all" = none := let ⟨_, X, G⟩ := T.hp; free_ok X G (T.d.fact 48)
theorem Txt.f_divmod (T : Txt K mg) : mg "divmod" = none := let ⟨_, X, G⟩ := T.hp; free_ok X G (T.d.fact 49)
theorem Txt.f_ValueError (T : Txt K mg) : mg "ValueError" = none := let ⟨_, X, G⟩ := T.hp; free_ok X G (T.d.fact 50)
theorem Txt.i_LONGEST (T : Txt K mg) : ∃ t, mg "LONGEST" = some (.int 60 t) := let ⟨_, X, G⟩ := T.hp; int_ok X G (T.d.fact 51)
theorem Txt.i_MOST_POTS (T : Txt K mg) : ∃ t, mg "MOST_POTS" = some (.int 8 t) := let ⟨_, X, G⟩ := T.hp; int_ok X G (T.d.fact 52)
theorem Txt.i_LONGEST_WEEK (T : Txt K mg) : ∃ t, mg "LONGEST_WEEK" = some (.int 14 t) := let ⟨_, X, G⟩ := T.hp; int_ok X G (T.d.fact 53)
theorem Txt.i_MOST_STATES (T : Txt K mg) : ∃ t, mg "MOST_STATES" = some (.int 20000 t) := let ⟨_, X, G⟩ := T.hp; int_ok X G (T.d.fact 54)
theorem Txt.i_LETTERS (T : Txt K mg) : ∃ t, mg "LETTERS" = some (.str "abcdefghijklmnopqrstuvwxyz" t) := let ⟨_, X, G⟩ := T.hp; str_ok X G (T.d.fact 55)
theorem Txt.c_Pot (T : Txt K mg) : Cls K (ga K "Pot") := cls_ok (T.d.fact 56)
theorem Txt.c_Cactus (T : Txt K mg) : Cls K (ga K "Cactus") := cls_ok (T.d.fact 57)
theorem Txt.c_Garden (T : Txt K mg) : Cls K (ga K "Garden") := cls_ok (T.d.fact 58)
theorem Txt.c_Lives (T : Txt K mg) : Cls K (ga K "Lives") := cls_ok (T.d.fact 59)
theorem Txt.n_Pot_name (T : Txt K mg) : NoAttr K (ga K "Pot") "name" := noat_ok (T.d.fact 60)
theorem Txt.n_Pot_gap (T : Txt K mg) : NoAttr K (ga K "Pot") "gap" := noat_ok (T.d.fact 61)
theorem Txt.n_Cactus_name (T : Txt K mg) : NoAttr K (ga K "Cactus") "name" := noat_ok (T.d.fact 62)
theorem Txt.n_Cactus_gap (T : Txt K mg) : NoAttr K (ga K "Cactus") "gap" := noat_ok (T.d.fact 63)
theorem Txt.n_Cactus_rest (T : Txt K mg) : NoAttr K (ga K "Cactus") "rest" := noat_ok (T.d.fact 64)
theorem Txt.n_Garden_pots (T : Txt K mg) : NoAttr K (ga K "Garden") "pots" := noat_ok (T.d.fact 65)
theorem Txt.n_Garden_cans (T : Txt K mg) : NoAttr K (ga K "Garden") "cans" := noat_ok (T.d.fact 66)
theorem Txt.n_Garden_week (T : Txt K mg) : NoAttr K (ga K "Garden") "week" := noat_ok (T.d.fact 67)
theorem Txt.n_Garden_closed (T : Txt K mg) : NoAttr K (ga K "Garden") "closed" := noat_ok (T.d.fact 68)
theorem Txt.n_Garden_order (T : Txt K mg) : NoAttr K (ga K "Garden") "order" := noat_ok (T.d.fact 69)
theorem Txt.n_Lives_garden (T : Txt K mg) : NoAttr K (ga K "Lives") "garden" := noat_ok (T.d.fact 70)
theorem Txt.n_Lives_table (T : Txt K mg) : NoAttr K (ga K "Lives") "table" := noat_ok (T.d.fact 71)
theorem Txt.m_Pot_may (T : Txt K mg) : Meth K (ga K "Pot") "may" (ma K (ga K "Pot") "may") := meth_ok (T.d.fact 72)
theorem Txt.m_Cactus_may (T : Txt K mg) : Meth K (ga K "Cactus") "may" (ma K (ga K "Cactus") "may") := meth_ok (T.d.fact 73)
theorem Txt.m_Garden_size (T : Txt K mg) : Meth K (ga K "Garden") "size" (ma K (ga K "Garden") "size") := meth_ok (T.d.fact 74)
theorem Txt.m_Garden_number (T : Txt K mg) : Meth K (ga K "Garden") "number" (ma K (ga K "Garden") "number") := meth_ok (T.d.fact 75)
theorem Txt.m_Garden_state (T : Txt K mg) : Meth K (ga K "Garden") "state" (ma K (ga K "Garden") "state") := meth_ok (T.d.fact 76)
theorem Txt.m_Garden_place (T : Txt K mg) : Meth K (ga K "Garden") "place" (ma K (ga K "Garden") "place") := meth_ok (T.d.fact 77)
theorem Txt.m_Garden_fresh (T : Txt K mg) : Meth K (ga K "Garden") "fresh" (ma K (ga K "Garden") "fresh") := meth_ok (T.d.fact 78)
theorem Txt.m_Lives_days (T : Txt K mg) : Meth K (ga K "Lives") "days" (ma K (ga K "Lives") "days") := meth_ok (T.d.fact 79)
theorem Txt.m_Lives_best (T : Txt K mg) : Meth K (ga K "Lives") "best" (ma K (ga K "Lives") "best") := meth_ok (T.d.fact 80)
theorem Txt.k_Pot (T : Txt K mg) : Mk K (ga K "Pot") (ma K (ga K "Pot") "__init__") := mkr_ok (T.d.fact 81)
theorem Txt.k_Cactus (T : Txt K mg) : Mk K (ga K "Cactus") (ma K (ga K "Cactus") "__init__") := mkr_ok (T.d.fact 82)
theorem Txt.k_Garden (T : Txt K mg) : Mk K (ga K "Garden") (ma K (ga K "Garden") "__init__") := mkr_ok (T.d.fact 83)
theorem Txt.k_Lives (T : Txt K mg) : Mk K (ga K "Lives") (ma K (ga K "Lives") "__init__") := mkr_ok (T.d.fact 84)
theorem Txt.x_NoPot (T : Txt K mg) : PySem.W.excIn K (ga K "NoPot") veBase "ValueError.__new__" = true ∧ PySem.W.keepIn K (.ref (ga K "NoPot")) = true ∧ PySem.W.subIn K (.ref (ga K "NoPot")) (.type "BaseException") = some true ∧ PySem.W.typeIn K (.ref (ga K "NoPot")) = some (.type "type") := let q := exc_ok (T.d.fact 85); ⟨q.1, q.2.1, q.2.2.1, q.2.2.2⟩
theorem Txt.e_NoPot (T : Txt K mg) : PySem.W.exmOne K (.ref (ga K "NoPot")) (.ref (ga K "GardenError")) = some true := exm_ok (T.d.fact 86)
theorem Txt.e_BadDay (T : Txt K mg) : PySem.W.exmOne K (.ref (ga K "BadDay")) (.ref (ga K "GardenError")) = some true := exm_ok (T.d.fact 87)
theorem Txt.d_BadDay_init (T : Txt K mg) : ∃ fd, FunD K "__init__" "BadDay.__init__" (defArgs s_BadDay_init) (defBody s_BadDay_init) (defScope s_BadDay_init) [] [] (ma K (ga K "BadDay") "__init__") fd := T.d.def_ 0
theorem Txt.d_bits_of (T : Txt K mg) : ∃ fd, FunD K "bits_of" "bits_of" (defArgs s_bits_of) (defBody s_bits_of) (defScope s_bits_of) [] [] (ga K "bits_of") fd := T.d.def_ 1
theorem Txt.d_allowed (T : Txt K mg) : ∃ fd, FunD K "allowed" "allowed" (defArgs s_allowed) (defBody s_allowed) (defScope s_allowed) [] [] (ga K "allowed") fd := T.d.def_ 2
theorem Txt.d_behind (T : Txt K mg) : ∃ fd, FunD K "behind" "behind" (defArgs s_behind) (defBody s_behind) (defScope s_behind) [] [] (ga K "behind") fd := T.d.def_ 3
theorem Txt.d_choices (T : Txt K mg) : ∃ fd, FunD K "choices" "choices" (defArgs s_choices) (defBody s_choices) (defScope s_choices) [] [] (ga K "choices") fd := T.d.def_ 4
theorem Txt.d_chosen_by (T : Txt K mg) : ∃ fd, FunD K "chosen_by" "chosen_by" (defArgs s_chosen_by) (defBody s_chosen_by) (defScope s_chosen_by) [V.int 0] [] (ga K "chosen_by") fd := T.d.def_ 5
theorem Txt.d_names_of (T : Txt K mg) : ∃ fd, FunD K "names_of" "names_of" (defArgs s_names_of) (defBody s_names_of) (defScope s_names_of) [] [] (ga K "names_of") fd := T.d.def_ 6
theorem Txt.d_dry_pot (T : Txt K mg) : ∃ fd, FunD K "dry_pot" "dry_pot" (defArgs s_dry_pot) (defBody s_dry_pot) (defScope s_dry_pot) [] [] (ga K "dry_pot") fd := T.d.def_ 7
theorem Txt.d_followed (T : Txt K mg) : ∃ fd, FunD K "followed" "followed" (defArgs s_followed) (defBody s_followed) (defScope s_followed) [V.int 0] [] (ga K "followed") fd := T.d.def_ 8
theorem Txt.d_kept (T : Txt K mg) : ∃ fd, FunD K "kept" "kept" (defArgs s_kept) (defBody s_kept) (defScope s_kept) [] [] (ga K "kept") fd := T.d.def_ 9
theorem Txt.d_kept_for_ever (T : Txt K mg) : ∃ fd, FunD K "kept_for_ever" "kept_for_ever" (defArgs s_kept_for_ever) (defBody s_kept_for_ever) (defScope s_kept_for_ever) [] [] (ga K "kept_for_ever") fd := T.d.def_ 10
theorem Txt.d_is_whole (T : Txt K mg) : ∃ fd, FunD K "is_whole" "is_whole" (defArgs s_is_whole) (defBody s_is_whole) (defScope s_is_whole) [] [] (ga K "is_whole") fd := T.d.def_ 11
theorem Txt.d_within (T : Txt K mg) : ∃ fd, FunD K "within" "within" (defArgs s_within) (defBody s_within) (defScope s_within) [] [] (ga K "within") fd := T.d.def_ 12
theorem Txt.d_is_name (T : Txt K mg) : ∃ fd, FunD K "is_name" "is_name" (defArgs s_is_name) (defBody s_is_name) (defScope s_is_name) [] [] (ga K "is_name") fd := T.d.def_ 13
theorem Txt.d_Pot_init (T : Txt K mg) : ∃ fd, FunD K "__init__" "Pot.__init__" (defArgs s_Pot_init) (defBody s_Pot_init) (defScope s_Pot_init) [] [] (ma K (ga K "Pot") "__init__") fd := T.d.def_ 14
theorem Txt.d_Pot_may (T : Txt K mg) : ∃ fd, FunD K "may" "Pot.may" (defArgs s_Pot_may) (defBody s_Pot_may) (defScope s_Pot_may) [] [] (ma K (ga K "Pot") "may") fd := T.d.def_ 15
theorem Txt.d_Cactus_init (T : Txt K mg) : ∃ fd, FunD K "__init__" "Cactus.__init__" (defArgs s_Cactus_init) (defBody s_Cactus_init) (defScope s_Cactus_init) [] [] (ma K (ga K "Cactus") "__init__") fd := T.d.def_ 16
theorem Txt.d_Cactus_may (T : Txt K mg) : ∃ fd, FunD K "may" "Cactus.may" (defArgs s_Cactus_may) (defBody s_Cactus_may) (defScope s_Cactus_may) [] [] (ma K (ga K "Cactus") "may") fd := T.d.def_ 17
theorem Txt.d_Garden_init (T : Txt K mg) : ∃ fd, FunD K "__init__" "Garden.__init__" (defArgs s_Garden_init) (defBody s_Garden_init) (defScope s_Garden_init) [V.int 1, V.int 1, V.int 0] [] (ma K (ga K "Garden") "__init__") fd := T.d.def_ 18
theorem Txt.d_Garden_size (T : Txt K mg) : ∃ fd, FunD K "size" "Garden.size" (defArgs s_Garden_size) (defBody s_Garden_size) (defScope s_Garden_size) [] [] (ma K (ga K "Garden") "size") fd := T.d.def_ 19
theorem Txt.d_Garden_number (T : Txt K mg) : ∃ fd, FunD K "number" "Garden.number" (defArgs s_Garden_number) (defBody s_Garden_number) (defScope s_Garden_number) [] [] (ma K (ga K "Garden") "number") fd := T.d.def_ 20
theorem Txt.d_Garden_state (T : Txt K mg) : ∃ fd, FunD K "state" "Garden.state" (defArgs s_Garden_state) (defBody s_Garden_state) (defScope s_Garden_state) [] [] (ma K (ga K "Garden") "state") fd := T.d.def_ 21
theorem Txt.d_Garden_place (T : Txt K mg) : ∃ fd, FunD K "place" "Garden.place" (defArgs s_Garden_place) (defBody s_Garden_place) (defScope s_Garden_place) [] [] (ma K (ga K "Garden") "place") fd := T.d.def_ 22
theorem Txt.d_Garden_fresh (T : Txt K mg) : ∃ fd, FunD K "fresh" "Garden.fresh" (defArgs s_Garden_fresh) (defBody s_Garden_fresh) (defScope s_Garden_fresh) [] [] (ma K (ga K "Garden") "fresh") fd := T.d.def_ 23
theorem Txt.d_ahead_of (T : Txt K mg) : ∃ fd, FunD K "ahead_of" "ahead_of" (defArgs s_ahead_of) (defBody s_ahead_of) (defScope s_ahead_of) [] [] (ga K "ahead_of") fd := T.d.def_ 24
theorem Txt.d_table (T : Txt K mg) : ∃ fd, FunD K "table" "table" (defArgs s_table) (defBody s_table) (defScope s_table) [] [] (ga K "table") fd := T.d.def_ 25
theorem Txt.d_Lives_init (T : Txt K mg) : ∃ fd, FunD K "__init__" "Lives.__init__" (defArgs s_Lives_init) (defBody s_Lives_init) (defScope s_Lives_init) [] [] (ma K (ga K "Lives") "__init__") fd := T.d.def_ 26
theorem Txt.d_Lives_days (T : Txt K mg) : ∃ fd, FunD K "days" "Lives.days" (defArgs s_Lives_days) (defBody s_Lives_days) (defScope s_Lives_days) [] [] (ma K (ga K "Lives") "days") fd := T.d.def_ 27
theorem Txt.d_Lives_best (T : Txt K mg) : ∃ fd, FunD K "best" "Lives.best" (defArgs s_Lives_best) (defBody s_Lives_best) (defScope s_Lives_best) [] [] (ma K (ga K "Lives") "best") fd := T.d.def_ 28
theorem Txt.d_rounds_of (T : Txt K mg) : ∃ fd, FunD K "rounds_of" "rounds_of" (defArgs s_rounds_of) (defBody s_rounds_of) (defScope s_rounds_of) [V.non] [] (ga K "rounds_of") fd := T.d.def_ 29
theorem Txt.d_cell_at_L (T : Txt K mg) : ∃ fd, FunD K "_law_cell_at" "_law_cell_at" (defArgs s_cell_at_L) (defBody s_cell_at_L) (defScope s_cell_at_L) [] [] (ga K "_law_cell_at") fd := T.d.def_ 30
theorem Txt.d_draw_L (T : Txt K mg) : ∃ fd, FunD K "_law_draw" "_law_draw" (defArgs s_draw_L) (defBody s_draw_L) (defScope s_draw_L) [] [] (ga K "_law_draw") fd := T.d.def_ 31
theorem Txt.d_spec_L (T : Txt K mg) : ∃ fd, FunD K "_law_spec" "_law_spec" (defArgs s_spec_L) (defBody s_spec_L) (defScope s_spec_L) [] [] (ga K "_law_spec") fd := T.d.def_ 32
theorem Txt.d_garden_L (T : Txt K mg) : ∃ fd, FunD K "_law_garden" "_law_garden" (defArgs s_garden_L) (defBody s_garden_L) (defScope s_garden_L) [] [] (ga K "_law_garden") fd := T.d.def_ 33
theorem Txt.d_behind_L (T : Txt K mg) : ∃ fd, FunD K "_law_behind" "_law_behind" (defArgs s_behind_L) (defBody s_behind_L) (defScope s_behind_L) [] [] (ga K "_law_behind") fd := T.d.def_ 34
theorem Txt.d_steps_L (T : Txt K mg) : ∃ fd, FunD K "_law_steps" "_law_steps" (defArgs s_steps_L) (defBody s_steps_L) (defScope s_steps_L) [] [] (ga K "_law_steps") fd := T.d.def_ 35
theorem Txt.d_walked_L (T : Txt K mg) : ∃ fd, FunD K "_law_walked" "_law_walked" (defArgs s_walked_L) (defBody s_walked_L) (defScope s_walked_L) [] [] (ga K "_law_walked") fd := T.d.def_ 36
theorem Txt.d_sorts_L (T : Txt K mg) : ∃ fd, FunD K "_law_sorts" "_law_sorts" (defArgs s_sorts_L) (defBody s_sorts_L) (defScope s_sorts_L) [] [] (ga K "_law_sorts") fd := T.d.def_ 37
theorem Txt.d_refusal_L (T : Txt K mg) : ∃ fd, FunD K "_law_refusal" "_law_refusal" (defArgs s_refusal_L) (defBody s_refusal_L) (defScope s_refusal_L) [] [] (ga K "_law_refusal") fd := T.d.def_ 38
theorem Txt.d_rows_L (T : Txt K mg) : ∃ fd, FunD K "_law_rows" "_law_rows" (defArgs s_rows_L) (defBody s_rows_L) (defScope s_rows_L) [] [] (ga K "_law_rows") fd := T.d.def_ 39
theorem Txt.d_due_L (T : Txt K mg) : ∃ fd, FunD K "_law_due" "_law_due" (defArgs s_due_L) (defBody s_due_L) (defScope s_due_L) [] [] (ga K "_law_due") fd := T.d.def_ 40
theorem Txt.d_right_L (T : Txt K mg) : ∃ fd, FunD K "_law_right" "_law_right" (defArgs s_right_L) (defBody s_right_L) (defScope s_right_L) [] [] (ga K "_law_right") fd := T.d.def_ 41
theorem Txt.d_law (T : Txt K mg) : ∃ fd, FunD K "law" "law" (defArgs s_law) (defBody s_law) (defScope s_law) [] [] (ga K "law") fd := T.d.def_ 42
theorem all_at {l : List Bool} (h : l.all id = true) (i : Nat) {b : Bool} (e : l[i]? = some b) : b = true := List.all_eq_true.mp h b (List.mem_of_getElem? e)
theorem Txt.b0 (T : Txt K mg) : (oexB K (ga K "BadDay")) = true := all_at T.ex 0 rfl
theorem Txt.b1 (T : Txt K mg) : (xfB K (ga K "BadDay")) = true := all_at T.ex 1 rfl
theorem Txt.b2 (T : Txt K mg) : (xfB K (ga K "NoPot")) = true := all_at T.ex 2 rfl
theorem Txt.b3 (T : Txt K mg) : (objB K (ga K "BadDay")) = true := all_at T.ex 3 rfl
theorem Txt.b4 (T : Txt K mg) : (objB K (ga K "NoPot")) = true := all_at T.ex 4 rfl
theorem Txt.b5 (T : Txt K mg) : (objB K (ga K "Pot")) = true := all_at T.ex 5 rfl
theorem Txt.b6 (T : Txt K mg) : (objB K (ga K "Cactus")) = true := all_at T.ex 6 rfl
theorem Txt.b7 (T : Txt K mg) : (eqO (PySem.W.findIn K (.ref (ga K "BadDay")) "day") (some none)) = true := all_at T.ex 7 rfl
theorem Txt.b8 (T : Txt K mg) : (eqO (PySem.W.findIn K (.ref (ga K "BadDay")) "__init__") (some (some (.ref (ma K (ga K "BadDay") "__init__"))))) = true := all_at T.ex 8 rfl
theorem Txt.b9 (T : Txt K mg) : (decide (PySem.W.typeIn K (.ref (ma K (ga K "BadDay") "__init__")) = some (.type "function"))) = true := all_at T.ex 9 rfl
theorem Txt.b10 (T : Txt K mg) : (kitB2 K (.ref (ga K "Pot")) (.ref (ga K "Pot")) true) = true := all_at T.ex 10 rfl
theorem Txt.b11 (T : Txt K mg) : (kitB2 K (.ref (ga K "Cactus")) (.ref (ga K "Pot")) true) = true := all_at T.ex 11 rfl
theorem Txt.b12 (T : Txt K mg) : (kitB2 K (.ref (ga K "BadDay")) (.ref (ga K "BadPot")) false) = true := all_at T.ex 12 rfl
theorem Txt.b13 (T : Txt K mg) : (kitB2 K (.ref (ga K "BadDay")) (.ref (ga K "TooMany")) false) = true := all_at T.ex 13 rfl
theorem Txt.b14 (T : Txt K mg) : (kitB2 K (.ref (ga K "BadDay")) (.ref (ga K "NoPot")) false) = true := all_at T.ex 14 rfl
theorem Txt.b15 (T : Txt K mg) : (kitB2 K (.ref (ga K "BadDay")) (.ref (ga K "BadDay")) true) = true := all_at T.ex 15 rfl
theorem Txt.b16 (T : Txt K mg) : (kitB2 K (.ref (ga K "BadDay")) (.ref (ga K "BadRow")) false) = true := all_at T.ex 16 rfl
theorem Txt.b17 (T : Txt K mg) : (kitB2 K (.ref (ga K "BadDay")) (.ref (ga K "NoState")) false) = true := all_at T.ex 17 rfl
theorem Txt.b18 (T : Txt K mg) : (kitB2 K (.ref (ga K "BadDay")) (.type "ValueError") true) = true := all_at T.ex 18 rfl
theorem Txt.b19 (T : Txt K mg) : (kitB2 K (.ref (ga K "NoPot")) (.ref (ga K "BadPot")) false) = true := all_at T.ex 19 rfl
theorem Txt.b20 (T : Txt K mg) : (kitB2 K (.ref (ga K "NoPot")) (.ref (ga K "TooMany")) false) = true := all_at T.ex 20 rfl
theorem Txt.b21 (T : Txt K mg) : (kitB2 K (.ref (ga K "NoPot")) (.ref (ga K "NoPot")) true) = true := all_at T.ex 21 rfl
theorem Txt.b22 (T : Txt K mg) : (kitB2 K (.ref (ga K "NoPot")) (.ref (ga K "BadDay")) false) = true := all_at T.ex 22 rfl
theorem Txt.b23 (T : Txt K mg) : (kitB2 K (.ref (ga K "NoPot")) (.ref (ga K "BadRow")) false) = true := all_at T.ex 23 rfl
theorem Txt.b24 (T : Txt K mg) : (kitB2 K (.ref (ga K "NoPot")) (.ref (ga K "NoState")) false) = true := all_at T.ex 24 rfl
theorem Txt.b25 (T : Txt K mg) : (kitB2 K (.ref (ga K "NoPot")) (.type "ValueError") true) = true := all_at T.ex 25 rfl
theorem Txt.b26 (T : Txt K mg) : (clsValB K (ga K "GardenError") "__init__" (.builtin "ValueError.__init__")) = true := all_at T.ex 26 rfl
theorem Txt.b27 (T : Txt K mg) : (clsValB K (ga K "Pot") "__init__" (.ref (ma K (ga K "Pot") "__init__"))) = true := all_at T.ex 27 rfl
end
end Tk

set_option maxHeartbeats 4000000
/-! What the walks lean on: exceptions' facts, data in the heap, small rules. -/
namespace Tk
open PySem PySem.Spec PyProof.Rows L2 He
/-! ### facts of the exceptions -/
theorem oexB_ok {K : PySem.W.Frag} {C : Addr} (h : oexB K C = true) : OexC K C := by
  unfold oexB at h
  obtain ⟨h0, h⟩ := ba h
  obtain ⟨h1, h⟩ := ba h
  obtain ⟨h2, h⟩ := ba h
  obtain ⟨h3, h4⟩ := ba h
  refine ⟨?_, eqO_ok h1, of_decide_eq_true h2, of_decide_eq_true h3, h4⟩
  split at h0
  · rename_i t dd cd sl ho
    split at h0
    · rename_i D bm k0 k1 k2 k3 n k5 hm hs
      obtain ⟨a1, h0⟩ := ba h0
      obtain ⟨a2, h0⟩ := ba h0
      obtain ⟨a3, h0⟩ := ba h0
      obtain ⟨a4, h0⟩ := ba h0
      obtain ⟨a5, a6⟩ := ba h0
      have e1 := of_decide_eq_true a1
      have e2 := of_decide_eq_true a2
      have e3 := of_decide_eq_true a3
      subst e1 e2 e3
      obtain ⟨nm, bs, mro, ns, qn, hd, sn, sub, ab, col, dl⟩ := cd
      dsimp only at hm a4 a5
      have e4 : dl = false := by simpa using a4
      subst hm e4 a5
      have hsl : sl = #[k0, k1, k2, k3, some (.builtin "ValueError.__new__"), k5] := by
        obtain ⟨l⟩ := sl
        simp only at hs
        rw [hs]
      subst hsl
      exact ⟨nm, qn, ns, bs, bm, sn, sub, ab, col, dd, k0, k1, k2, k3, k5, ho, a6⟩
    · cases h0
  · cases h0
theorem excC_ok {K : PySem.W.Frag} {D : Addr} (h : xfB K D = true) (k : objB K D = true) : ExcC K D := by
  obtain ⟨a, b, c, d⟩ := xfB_ok h
  unfold objB at k
  obtain ⟨k0, k⟩ := ba k
  obtain ⟨k1, k⟩ := ba k
  obtain ⟨k2, k3⟩ := ba k
  exact ⟨a, b, c, d, eqO_ok k0, eqO_ok k1, of_decide_eq_true k2, of_decide_eq_true k3⟩
theorem cv_ok {K : PySem.W.Frag} {C : Addr} {m : Str} {u : Value} (h : clsValB K C m u = true) : CV K C m u := by
  unfold clsValB at h
  obtain ⟨h1, h2⟩ := ba h
  obtain ⟨h0, h1⟩ := ba h1
  refine ⟨h0, eqO_ok h1, ?_⟩
  split at h2
  · rename_i v e
    rw [e, of_decide_eq_true h2]
  · cases h2
section
variable {K : PySem.W.Frag} {mg : Str → Option Value}
theorem Txt.oex (T : Txt K mg) : OexC K (ga K "BadDay") := oexB_ok T.b0
theorem Txt.xfBD (T : Txt K mg) : XfC K (ga K "BadDay") := xfB_ok T.b1
theorem Txt.ecBD (T : Txt K mg) : ExcC K (ga K "BadDay") := excC_ok T.b1 T.b3
theorem Txt.ecNP (T : Txt K mg) : ExcC K (ga K "NoPot") := excC_ok T.b2 T.b4
theorem Txt.noDay (T : Txt K mg) : PySem.W.findIn K (.ref (ga K "BadDay")) "day" = some none := eqO_ok T.b7
theorem Txt.initBD (T : Txt K mg) : PySem.W.findIn K (.ref (ga K "BadDay")) "__init__" = some (some (.ref (ma K (ga K "BadDay") "__init__"))) := eqO_ok T.b8
theorem Txt.initTy (T : Txt K mg) : PySem.W.typeIn K (.ref (ma K (ga K "BadDay") "__init__")) = some (.type "function") := of_decide_eq_true T.b9
theorem Txt.cvGE (T : Txt K mg) : CV K (ga K "GardenError") "__init__" (.builtin "ValueError.__init__") := cv_ok T.b26
theorem Txt.cvPot (T : Txt K mg) : CV K (ga K "Pot") "__init__" (.ref (ma K (ga K "Pot") "__init__")) := cv_ok T.b27
theorem Txt.pTy (T : Txt K mg) {H : Hp} {a dx : Addr} {fs : List (Str × V)} (e : H a = some (.ins (ga K "Pot") dx fs)) : TyX K H (.ref a) (.ref (ga K "Pot")) := by
  have k := T.b5
  unfold objB at k
  obtain ⟨k0, k⟩ := ba k
  obtain ⟨k1, k⟩ := ba k
  obtain ⟨k2, k3⟩ := ba k
  exact .base (.ins e T.c_Pot (eqO_ok k0) (eqO_ok k1) (of_decide_eq_true k2) (of_decide_eq_true k3))
theorem Txt.cTy (T : Txt K mg) {H : Hp} {a dx : Addr} {fs : List (Str × V)} (e : H a = some (.ins (ga K "Cactus") dx fs)) : TyX K H (.ref a) (.ref (ga K "Cactus")) := by
  have k := T.b6
  unfold objB at k
  obtain ⟨k0, k⟩ := ba k
  obtain ⟨k1, k⟩ := ba k
  obtain ⟨k2, k3⟩ := ba k
  exact .base (.ins e T.c_Cactus (eqO_ok k0) (eqO_ok k1) (of_decide_eq_true k2) (of_decide_eq_true k3))
theorem kit2 {t c : Value} {b : Bool} (h : kitB2 K t c b = true) : PySem.W.kitOne K t c = some b := of_decide_eq_true h
end
/-! ### bundles from a def -/
section
variable {P : Program} {w : World} {K : PySem.W.Frag} {mg : Str → Option Value} {base : Heap} {CX : CXT} {k : Nat} {x qual : Str} {params : Arguments} {body : List Stmt} {scope : Scope} {dvs : List V} {f : Addr} {fd : FuncData} {ps : List Str} {sp : Sp} {C : Addr}
theorem mk_df (F : FunD K x qual params body scope dvs [] f fd) (O : FnOk P w K mg base CX k f fd ps sp) (hm : mg x = some (.ref f)) (hb : Binds K fd ps []) : Df P w K mg base CX k x ps [] sp := ⟨f, fd, [], O, hm, F.kp, .nil, hb⟩
theorem mk_dfD {ds : List V} (F : FunD K x qual params body scope dvs [] f fd) (O : FnOk P w K mg base CX k f fd ps sp) (hm : mg x = some (.ref f)) (hb : ∃ us, Vals ds us ∧ Binds K fd ps us) : Df P w K mg base CX k x ps ds sp :=
  let ⟨us, v, b⟩ := hb; ⟨f, fd, us, O, hm, F.kp, v, b⟩
theorem mk_mt (O : FnOk P w K mg base CX k f fd ps sp) (c : Cls K C) (hm : Meth K C x f) (hb : Binds K fd ps []) : Mt P w K mg base CX k C x ps sp := ⟨⟨f, fd, O, hm, hb⟩, c⟩
theorem mk_ck (O : FnOk P w K mg base CX k f fd ps sp) (hm : Mk K C f) (hg : mg x = some (.ref C)) (hb : Binds K fd ps []) : Ck P w K mg base CX k C x ps [] sp := ⟨f, fd, [], O, hm, hg, .nil, hb⟩
theorem mk_ckD {ds : List V} (O : FnOk P w K mg base CX k f fd ps sp) (hm : Mk K C f) (hg : mg x = some (.ref C)) (hb : ∃ us, Vals ds us ∧ Binds K fd ps us) : Ck P w K mg base CX k C x ps ds sp := let ⟨us, v, b⟩ := hb; ⟨f, fd, us, O, hm, hg, v, b⟩
end
section
variable {X : Cx}
theorem pe_gI {x : Str} {i : Int} {pos : Pos} (hg : Gl X x) (hm : ∃ t, X.mg x = some (.int i t)) (hd : (x == ("__debug__" : Str)) = false := by decide) : PE X (.Name x pos) (tC (.int i)) := let ⟨t, e⟩ := hm; pe_glob hg e ⟨t, rfl⟩ hd
theorem pe_gS {x z : Str} {pos : Pos} (hg : Gl X x) (hm : ∃ t, X.mg x = some (.str z t)) (hd : (x == ("__debug__" : Str)) = false := by decide) : PE X (.Name x pos) (tC (.str z)) := let ⟨t, e⟩ := hm; pe_glob hg e ⟨t, rfl⟩ hd
end
/-! ### readings, applied -/
section
variable {σ : St} {H : Hp} {Q : VK} {D : Ends} {K : PySem.W.Frag}
theorem a_seq {t u : TS} : tSeq t u D σ H = t { D with nx := u D } σ H := rfl
theorem a_var0 {v : V} {l : St} : tVar 0 (some v :: l) H Q = Q v H := propext ⟨fun ⟨_, e, q⟩ => by cases e; exact q, fun q => ⟨_, rfl, q⟩⟩
theorem a_varS {n : Nat} {x : Option V} {l : St} : tVar (n + 1) (x :: l) H Q = tVar n l H Q := rfl
theorem a_c {v : V} : tC v σ H Q = Q v H := rfl
theorem a_asg {te : TE} {g : TG} : tAsg te g D σ H = te σ H fun x H1 => g x σ H1 D.nx := rfl
theorem a_name {i : Nat} {v : V} {N : St → Hp → Prop} : gName i v σ H N = N (σ.set i (some v)) H := rfl
theorem a_set0 {x y : Option V} {l : St} : List.set (x :: l) 0 y = y :: l := rfl
theorem a_setS {n : Nat} {x y : Option V} {l : St} : List.set (x :: l) (n + 1) y = x :: List.set l n y := rfl
theorem a_ret {te : TE} : tRet te D σ H = te σ H D.rt := rfl
theorem a_retN : tRetN D σ H = D.rt .non H := rfl
theorem a_ifS {c : TT} {t u : TS} : tIfS c t u D σ H = c σ H fun b H1 => if b = true then t D σ H1 else u D σ H1 := rfl
theorem a_drop {te : TE} : tDrop te D σ H = te σ H fun _ H1 => D.nx σ H1 := rfl
theorem a_next : tNext D σ H = D.nx σ H := rfl
theorem a_op {r : R2} {ta tb : TE} : tOp r ta tb σ H Q = ta σ H fun x H1 => tb σ H1 fun y H2 => r x y H2 Q := rfl
theorem a_un {r : V → Hp → VK → Prop} {ta : TE} : tUn r ta σ H Q = ta σ H fun x H1 => r x H1 Q := rfl
theorem a_I0 {g : Int → Int → V} {i j : Int} : rI0 g (.int i) (.int j) H Q = Q (g i j) H := propext ⟨fun ⟨_, _, e, f, q⟩ => by cases e; cases f; exact q, fun q => ⟨_, _, rfl, rfl, q⟩⟩
theorem a_I {C : Int → Int → Prop} {g : Int → Int → V} {i j : Int} : rI C g (.int i) (.int j) H Q = (C i j ∧ Q (g i j) H) := propext ⟨fun ⟨_, _, e, f, q⟩ => by cases e; cases f; exact q, fun q => ⟨_, _, rfl, rfl, q⟩⟩
theorem a_U {g : Int → V} {i : Int} : rU g (.int i) H Q = Q (g i) H := propext ⟨fun ⟨_, e, q⟩ => by cases e; exact q, fun q => ⟨_, rfl, q⟩⟩
def bT (x : V) (H : Hp) (Q : Bool → Hp → Prop) : Prop := ∃ k, x = .bl k ∧ Q k H
theorem a_bT {b : Bool} {R : Bool → Hp → Prop} : bT (.bl b) H R = R b H := propext ⟨fun ⟨_, e, q⟩ => by cases e; exact q, fun q => ⟨_, rfl, q⟩⟩
theorem a_test {te : TE} {R : Bool → Hp → Prop} : tTest te σ H R = te σ H fun x H1 => bT x H1 R := rfl
theorem a_B {te : TE} {R : Bool → Hp → Prop} : tB te σ H R = te σ H fun x H1 => bT x H1 R := rfl
theorem a_and {t u : TT} {R : Bool → Hp → Prop} : tAnd t u σ H R = t σ H fun c H1 => if c = true then u σ H1 R else R false H1 := rfl
theorem a_or {t u : TT} {R : Bool → Hp → Prop} : tOr t u σ H R = t σ H fun c H1 => if c = true then R true H1 else u σ H1 R := rfl
theorem a_not {t : TT} {R : Bool → Hp → Prop} : tNot t σ H R = t σ H fun c H1 => R (!c) H1 := rfl
theorem a_andV {ta tb : TE} : tAndV ta tb σ H Q = ta σ H fun x H1 => bT x H1 fun c H2 => if c = true then tb σ H2 Q else Q (.bl false) H2 := rfl
theorem a_orV {ta tb : TE} : tOrV ta tb σ H Q = ta σ H fun x H1 => bT x H1 fun c H2 => if c = true then Q (.bl true) H2 else tb σ H2 Q := rfl
theorem a_notV {ta : TE} : tNotV ta σ H Q = ta σ H fun x H1 => bT x H1 fun c H2 => Q (.bl (!c)) H2 := rfl
theorem a_if {t : TT} {ta tb : TE} : tIf t ta tb σ H Q = t σ H fun c H1 => if c = true then ta σ H1 Q else tb σ H1 Q := rfl
theorem a_isN {ta : TE} : tIsN ta σ H Q = ta σ H fun x H1 => Q (.bl (decide (x = .non))) H1 := rfl
theorem a_notN {ta : TE} : tNotN ta σ H Q = ta σ H fun x H1 => Q (.bl (!decide (x = .non))) H1 := rfl
theorem a_nil {R : List V → Hp → Prop} : tNil σ H R = R [] H := rfl
theorem a_cons {ta : TE} {tr : TA} {R : List V → Hp → Prop} : tCons ta tr σ H R = ta σ H fun x H1 => tr σ H1 fun xs H2 => R (x :: xs) H2 := rfl
theorem a_CB {r : List V → Hp → VK → Prop} {t : TA} : tCB r t σ H Q = t σ H fun vs H1 => r vs H1 Q := rfl
def nwL (xs : List V) (H : Hp) (Q : VK) : Prop := xs.length ≤ sizeLine ∧ ∀ p, H p = none → Q (.ref p) (upd H p (.lst xs))
def nwT (xs : List V) (H : Hp) (Q : VK) : Prop := xs.length ≤ sizeLine ∧ ∀ p, H p = none → Q (.ref p) (upd H p (.tup xs))
theorem a_lst {t : TA} : tLst t σ H Q = t σ H fun xs H1 => nwL xs H1 Q := rfl
theorem a_tup {t : TA} : tTup t σ H Q = t σ H fun xs H1 => nwT xs H1 Q := rfl
theorem a_call {sp : Sp} {dvs : List V} {E : XK} {t : TA} : tCall sp dvs E t σ H Q = t σ H fun vs H1 => sp (vs ++ dvs) H1 Q E := rfl
theorem a_callS {sp : Sp} {E : St → XK} {t : TA} : tCallS sp E t σ H Q = t σ H fun vs H1 => sp vs H1 Q (E σ) := rfl
theorem a_clsFn {sp : Sp} {E : XK} {t : TA} : tClsFn sp E t σ H Q = t σ H fun vs H1 => sp vs H1 Q E := rfl
def rcv (C : Addr) (m : Str) (x : V) (H : Hp) (k : Hp → Prop) : Prop := ∃ a dx fs, x = .ref a ∧ H a = some (.ins C dx fs) ∧ fs.lookup m = none ∧ k H
theorem a_meth {C : Addr} {m : Str} {sp : Sp} {dvs : List V} {E : XK} {ta : TE} {t : TA} : tMeth C m sp dvs E ta t σ H Q = ta σ H fun x H1 => rcv C m x H1 fun H2 => t σ H2 fun vs H3 => sp (x :: (vs ++ dvs)) H3 Q E := rfl
def mkI (C : Addr) (sp : Sp) (vs : List V) (H : Hp) (Q : VK) (E : XK) : Prop := ∀ x dx, H x = none → H dx = none → dx ≠ x → sp (.ref x :: vs) (upd (upd H dx (.own x)) x (.ins C dx [])) (fun v H2 => v = .non ∧ Q (.ref x) H2) E
theorem a_make {C : Addr} {sp : Sp} {dvs : List V} {E : XK} {t : TA} : tMake C sp dvs E t σ H Q = t σ H fun vs H1 => mkI C sp (vs ++ dvs) H1 Q E := rfl
def fldR (K : PySem.W.Frag) (f : Str) (x : V) (H : Hp) (Q : VK) : Prop := ∃ a C dx fs v, x = .ref a ∧ H a = some (.ins C dx fs) ∧ Cls K C ∧ NoAttr K C f ∧ fs.lookup f = some v ∧ Q v H
theorem a_fld {f : Str} {ta : TE} : tFld K ta f σ H Q = ta σ H fun x H1 => fldR K f x H1 Q := rfl
def fldS (K : PySem.W.Frag) (f : Str) (x y : V) (H : Hp) (N : Hp → Prop) : Prop := ∃ a C dx fs, x = .ref a ∧ H a = some (.ins C dx fs) ∧ Cls K C ∧ NoAttr K C f ∧ fs.length < 1000 ∧ N (upd H a (.ins C dx (putF f y fs)))
theorem a_fldS {f : Str} {ta tv : TE} : sFld K ta tv f D σ H = tv σ H fun y H1 => ta σ H1 fun x H2 => fldS K f x y H2 fun H3 => D.nx σ H3 := rfl
def bmR (K : PySem.W.Frag) (T : String) (x : V) (H : Hp) (k : Hp → Prop) : Prop := tyV K T x H ∧ k H
theorem a_BM {T : String} {r : V → List V → Hp → VK → Prop} {to : TE} {t : TA} : tBM K T r to t σ H Q = to σ H fun x H1 => bmR K T x H1 fun H2 => t σ H2 fun xs H3 => r x xs H3 Q := rfl
theorem a_BM0 {T : String} {r : V → List V → Hp → VK → Prop} {to : TE} : tBM0 K T r to σ H Q = to σ H fun x H1 => bmR K T x H1 fun H2 => r x [] H2 Q := rfl
theorem a_sl {r : V → Option Int → Option Int → Hp → VK → Prop} {te : TE} {tl th : TO} : tSl r te tl th σ H Q = te σ H fun x H1 => tl σ H1 fun l H2 => th σ H2 fun u H3 => r x l u H3 Q := rfl
theorem a_noP {R : Option Int → Hp → Prop} : tNoPart σ H R = R none H := rfl
def intP (x : V) (H : Hp) (R : Option Int → Hp → Prop) : Prop := ∃ i, x = .int i ∧ R (some i) H
theorem a_part {t : TE} {R : Option Int → Hp → Prop} : tPart t σ H R = t σ H fun x H1 => intP x H1 R := rfl
theorem a_intP {i : Int} {R : Option Int → Hp → Prop} : intP (.int i) H R = R (some i) H := propext ⟨fun ⟨_, e, q⟩ => by cases e; exact q, fun q => ⟨_, rfl, q⟩⟩
def tupG (K : PySem.W.Frag) (n : Nat) (v : V) (H : Hp) (k : List V → Prop) : Prop := ∃ a xs, v = .ref a ∧ SqT K H a xs ∧ xs.length = n ∧ k xs
theorem a_gTup {n : Nat} {t : TGs} {v : V} {N : St → Hp → Prop} : gTup K n t v σ H N = tupG K n v H fun xs => t xs σ H N := rfl
theorem a_gNil {N : St → Hp → Prop} : gNil [] σ H N = N σ H := propext ⟨fun ⟨_, q⟩ => q, fun q => ⟨rfl, q⟩⟩
theorem a_gCons {t : TG} {u : TGs} {v : V} {r : List V} {N : St → Hp → Prop} : gCons t u (v :: r) σ H N = t v σ H fun σ' H' => u r σ' H' N := propext ⟨fun ⟨_, _, e, q⟩ => by cases e; exact q, fun q => ⟨_, _, rfl, q⟩⟩
theorem a_gSub {to ti : TE} {t : TSet} {v : V} {N : St → Hp → Prop} : gSub to ti t v σ H N = to σ H fun o H1 => ti σ H1 fun i H2 => t o i v H2 fun H3 => N σ H3 := rfl
theorem a_ipI {f : Int → Int → Int} {i j : Int} : ipI f (.int i) (.int j) H Q = Q (.int (f i j)) H := propext ⟨fun ⟨_, _, e, g, q⟩ => by cases e; cases g; exact q, fun q => ⟨_, _, rfl, rfl, q⟩⟩
theorem a_ipMul {i j : Int} : ipMul (.int i) (.int j) H Q = (CMul i j ∧ Q (.int (i * j)) H) := propext ⟨fun ⟨_, _, e, g, q⟩ => by cases e; cases g; exact q, fun q => ⟨_, _, rfl, rfl, q⟩⟩
theorem a_aug {i : Nat} {te : TE} {ti : TIp} : tAug i te ti D σ H = tVar i σ H fun x _ => te σ H fun y H1 => ti x y H1 fun z H2 => D.nx (σ.set i (some z)) H2 := rfl
theorem a_augS {to ti te : TE} {tget : V → V → Hp → VK → Prop} {tip : TIp} {tset : TSet} : tAugS to ti te tget tip tset D σ H = to σ H fun o H1 => ti σ H1 fun i H2 => tget o i H2 fun x H3 => te σ H3 fun y H4 => tip x y H4 fun z H5 => tset o i z H5 fun H6 => D.nx σ H6 := rfl
theorem a_chain {r r' : R2} {ta tb tc : TE} : tChain r r' ta tb tc σ H Q = ta σ H fun x H1 => tb σ H1 fun y H2 => r x y H2 fun z H3 => bT z H3 fun k H4 => if k = true then tc σ H4 fun u H5 => r' y u H5 Q else Q (.bl false) H4 := rfl
theorem m_and {p q : Prop} [Decidable p] [Decidable q] {A B : Prop} : (if p then (if q then A else B) else B) = if p ∧ q then A else B := by
  by_cases h : p <;> by_cases k : q <;> simp [h, k]
theorem m_or {p q : Prop} [Decidable p] [Decidable q] {A B : Prop} : (if p then A else if q then A else B) = if p ∨ q then A else B := by
  by_cases h : p <;> by_cases k : q <;> simp [h, k]
end
end Tk

set_option maxHeartbeats 4000000
/-! Words of the readings: one step each. -/
namespace Tk
open PySem PySem.Spec PyProof.Rows L2 He Evl
section
variable {P : Program} {w : World} {K : PySem.W.Frag} {mg : Str → Option Value} {base : Heap} {CX : CXT} {N : List Str} {qual : Str} {scope : Scope} {f : Addr} {cdv : Value} {A : Around} {outer : List Env} {s : Shared} {H0 : Hp} {E : XK}
theorem cx_K : (cxOf CX P w K mg base N qual scope f cdv A outer s H0 E).K = K := rfl
theorem cx_P : (cxOf CX P w K mg base N qual scope f cdv A outer s H0 E).prog = P := rfl
theorem cx_w : (cxOf CX P w K mg base N qual scope f cdv A outer s H0 E).w = w := rfl
end
section
variable {σ : St} {H H' : Hp} {Q : VK} {D : Ends} {K : PySem.W.Frag}
theorem a_eqI {i j : Int} : rEq (.int i) (.int j) H Q = Q (.bl (decide (i = j))) H := by
  unfold rEq
  simp [scal]
theorem a_neI {i j : Int} : rNe (.int i) (.int j) H Q = Q (.bl (!decide (i = j))) H := by
  unfold rNe
  simp [scal]
theorem a_eqS {i j : Str} : rEq (.str i) (.str j) H Q = Q (.bl (decide (i = j))) H := by
  unfold rEq
  simp [scal]
theorem a_neS {i j : Str} : rNe (.str i) (.str j) H Q = Q (.bl (!decide (i = j))) H := by
  unfold rNe
  simp [scal]
theorem while_w {c : TT} {tb : TS} (W : Nat → St → Hp → Prop) (m0 : Nat) (h0 : W m0 σ H)
    (hs : ∀ m σ H, W m σ H → c σ H fun b H1 => if b = true then ∃ N : St → Hp → Prop, (∀ σ' H', N σ' H' → ∃ m', m' < m ∧ W m' σ' H') ∧ tb { D with nx := N, ct := N, bk := D.nx } σ H1 else D.nx σ H1) : tWhile c tb D σ H := ⟨W, ⟨m0, h0⟩, hs⟩
theorem s_nwL {xs : List V} (hl : xs.length ≤ 100000) (q : ∀ p, H p = none → Q (.ref p) (upd H p (.lst xs))) : nwL xs H Q := ⟨sz_of hl, q⟩
theorem s_nwT {xs : List V} (hl : xs.length ≤ 100000) (q : ∀ p, H p = none → Q (.ref p) (upd H p (.tup xs))) : nwT xs H Q := ⟨sz_of hl, q⟩
theorem s_nil (q : ∀ p, H p = none → Q (.ref p) (upd H p (.lst []))) : nwL [] H Q := ⟨Nat.zero_le _, q⟩
theorem s_app {F : Addr} {xs : List V} {y : V} (h : H F = some (.lst xs)) (hl : xs.length < 100000) (q : Q .non (upd H F (.lst (xs ++ [y])))) : bmR K "list" (.ref F) H fun H2 => rAppend (.ref F) [y] H2 Q :=
  ⟨.inl ⟨rfl, _, SqL.of h⟩, F, xs, y, rfl, rfl, h, sz_lt hl, q⟩
theorem s_fld {f : Str} {a C dx : Addr} {fs : List (Str × V)} {v : V} (h : H a = some (.ins C dx fs)) (c : Cls K C) (n : NoAttr K C f) (l : fs.lookup f = some v) (q : Q v H) : fldR K f (.ref a) H Q := ⟨a, C, dx, fs, v, rfl, h, c, n, l, q⟩
theorem s_rcv {C : Addr} {m : Str} {a dx : Addr} {fs : List (Str × V)} {k : Hp → Prop} (h : H a = some (.ins C dx fs)) (l : fs.lookup m = none) (q : k H) : rcv C m (.ref a) H k := ⟨a, dx, fs, rfl, h, l, q⟩
theorem s_ixL {p : Addr} {xs : List V} {i : Int} {v : V} (h : H p = some (.lst xs)) (ha : atI xs i = some v) (q : Q v H) : rIxL K (.ref p) (.int i) H Q := ⟨p, xs, i, v, rfl, rfl, SqL.of h, ha, q⟩
theorem s_ixT {p : Addr} {xs : List V} {i : Int} {v : V} (h : H p = some (.tup xs)) (ha : atI xs i = some v) (q : Q v H) : rIxT K (.ref p) (.int i) H Q := ⟨p, xs, i, v, rfl, rfl, SqT.of h, ha, q⟩
theorem s_tupG {n : Nat} {p : Addr} {xs : List V} {k : List V → Prop} (h : H p = some (.tup xs)) (hl : xs.length = n) (q : k xs) : tupG K n (.ref p) H k := ⟨p, xs, rfl, SqT.of h, hl, q⟩
theorem at_nat {xs : List V} {k : Nat} {v : V} (h : xs[k]? = some v) : atI xs (k : Int) = some v := at_of (j := k) rfl h
theorem at_int {xs : List V} {i : Int} {v : V} (h0 : 0 ≤ i) (h : xs[i.toNat]? = some v) : atI xs i = some v := at_of (j := i.toNat) (by omega) h
theorem ex_upd {p : Addr} {o : HO} (e : Ex H H') (h : H' p = none) : Ex H (upd H' p o) := e.trans (Ex.new h)
/-! ### a heap without one object -/
theorem ex_del {p : Addr} : Ex (del H p) H := fun b o e => by
  by_cases h : b = p
  · subst h
    rw [del_same] at e
    cases e
  · rw [del_ne h] at e
    exact e
theorem ex_del2 {p : Addr} (e : Ex H H') : Ex (del H p) (del H' p) := fun b o q => by
  by_cases h : b = p
  · subst h
    rw [del_same] at q
    cases q
  · rw [del_ne h] at q ⊢
    exact e b o q
theorem ex_into {p : Addr} (e : Ex H H') (h : H p = none) : Ex H (del H' p) := fun b o q => by
  rw [del_ne (ne_of_none q h)]
  exact e b o q
theorem del_upd {p : Addr} {o : HO} : del (upd H p o) p = del H p := funext fun b => by
  by_cases h : b = p
  · subst h
    rw [del_same, del_same]
  · rw [del_ne h, del_ne h, upd_ne h]
theorem ne_new {p q : Addr} {o : HO} (h : H p = some o) (hq : H q = none) : p ≠ q := ne_of_none h hq
end
/-! ### data that no one changes -/
mutual
inductive Dq (H : Hp) : V → PyData → Prop
  | non : Dq H .non .none
  | bl (b : Bool) : Dq H (.bl b) (.bool b)
  | int (i : Int) : Dq H (.int i) (.int i)
  | str (x : Str) : Dq H (.str x) (.str x)
  | lst {a : Addr} {vs : List V} {ds : List PyData} : H a = some (.lst vs) → DqAll H vs ds → Dq H (.ref a) (.list ds)
  | tup {a : Addr} {vs : List V} {ds : List PyData} : H a = some (.tup vs) → DqAll H vs ds → Dq H (.ref a) (.tuple ds)
inductive DqAll (H : Hp) : List V → List PyData → Prop
  | nil : DqAll H [] []
  | cons {v : V} {vs : List V} {d : PyData} {ds : List PyData} : Dq H v d → DqAll H vs ds → DqAll H (v :: vs) (d :: ds)
end
section
variable {H H' : Hp} {K : PySem.W.Frag}
mutual
theorem Dq.mono (e : Ex H H') : ∀ (d : PyData) {v : V}, Dq H v d → Dq H' v d
  | .none, _, h => by cases h; exact .non
  | .bool b, _, h => by cases h; exact .bl b
  | .int i, _, h => by cases h; exact .int i
  | .str x, _, h => by cases h; exact .str x
  | .list ds, _, h => by
    cases h with
    | lst ha hs => exact .lst (e _ _ ha) (DqAll.mono e ds hs)
  | .tuple ds, _, h => by
    cases h with
    | tup ha hs => exact .tup (e _ _ ha) (DqAll.mono e ds hs)
  | .dict _, _, h => by cases h
theorem DqAll.mono (e : Ex H H') : ∀ (ds : List PyData) {vs : List V}, DqAll H vs ds → DqAll H' vs ds
  | [], _, h => by cases h; exact .nil
  | d :: ds, _, h => by
    cases h with
    | cons h1 h2 => exact .cons (Dq.mono e d h1) (DqAll.mono e ds h2)
end
mutual
theorem Dq.dp : ∀ (d : PyData) {v : V}, Dq H v d → Dp K H v d
  | .none, _, h => by cases h; exact .non
  | .bool b, _, h => by cases h; exact .bl b
  | .int i, _, h => by cases h; exact .int i
  | .str x, _, h => by cases h; exact .str x
  | .list ds, _, h => by
    cases h with
    | lst ha hs => exact .lst (SqL.of ha) (DqAll.dp ds hs)
  | .tuple ds, _, h => by
    cases h with
    | tup ha hs => exact .tup (SqT.of ha) (DqAll.dp ds hs)
  | .dict _, _, h => by cases h
theorem DqAll.dp : ∀ (ds : List PyData) {vs : List V}, DqAll H vs ds → DpAll K H vs ds
  | [], _, h => by cases h; exact .nil
  | d :: ds, _, h => by
    cases h with
    | cons h1 h2 => exact .cons (Dq.dp d h1) (DqAll.dp ds h2)
end
theorem DqAll.len {vs : List V} {ds : List PyData} (h : DqAll H vs ds) : vs.length = ds.length := by
  induction ds generalizing vs with
  | nil => cases h; rfl
  | cons d ds ih =>
    cases h with
    | cons h1 h2 => simp only [List.length_cons, ih h2]
theorem DqAll.at_ {vs : List V} {ds : List PyData} (h : DqAll H vs ds) {k : Nat} {v : V} (hv : vs[k]? = some v) : ∃ d, ds[k]? = some d ∧ Dq H v d := by
  induction ds generalizing vs k with
  | nil => cases h; simp at hv
  | cons d ds ih =>
    cases h with
    | cons h1 h2 =>
      cases k with
      | zero =>
        simp only [List.getElem?_cons_zero, Option.some.injEq] at hv
        subst hv
        exact ⟨d, rfl, h1⟩
      | succ k => exact ih h2 (by simpa using hv)
theorem DqAll.of_at {vs : List V} {ds : List PyData} (h : DqAll H vs ds) {k : Nat} {d : PyData} (hd : ds[k]? = some d) : ∃ v, vs[k]? = some v ∧ Dq H v d := by
  have hl : k < vs.length := by rw [h.len]; exact (List.getElem?_eq_some_iff.mp hd).1
  obtain ⟨d', e, q⟩ := h.at_ (List.getElem?_eq_getElem hl)
  rw [hd] at e
  cases e
  exact ⟨_, List.getElem?_eq_getElem hl, q⟩
theorem DqAll.app {vs us : List V} {ds es : List PyData} (h : DqAll H vs ds) (g : DqAll H us es) : DqAll H (vs ++ us) (ds ++ es) := by
  induction ds generalizing vs with
  | nil => cases h; exact g
  | cons d ds ih =>
    cases h with
    | cons h1 h2 => exact .cons h1 (ih h2)
theorem DqAll.one {v : V} {d : PyData} (h : Dq H v d) : DqAll H [v] [d] := .cons h .nil
theorem DqAll.take {vs : List V} {ds : List PyData} (h : DqAll H vs ds) (n : Nat) : DqAll H (vs.take n) (ds.take n) := by
  induction ds generalizing vs n with
  | nil => cases h; simp; exact .nil
  | cons d ds ih =>
    cases h with
    | cons h1 h2 =>
      cases n with
      | zero => exact .nil
      | succ n => exact .cons h1 (ih h2 n)
theorem DqAll.drop {vs : List V} {ds : List PyData} (h : DqAll H vs ds) (n : Nat) : DqAll H (vs.drop n) (ds.drop n) := by
  induction ds generalizing vs n with
  | nil => cases h; simp; exact .nil
  | cons d ds ih =>
    cases h with
    | cons h1 h2 =>
      cases n with
      | zero => exact .cons h1 h2
      | succ n => exact ih h2 n
theorem DqAll.rev {vs : List V} {ds : List PyData} (h : DqAll H vs ds) : DqAll H vs.reverse ds.reverse := by
  induction ds generalizing vs with
  | nil => cases h; exact .nil
  | cons d ds ih =>
    cases h with
    | cons h1 h2 =>
      rw [List.reverse_cons, List.reverse_cons]
      exact (ih h2).app (.one h1)
end
/-! ### pots and gardens in the heap -/
inductive PotAt (K : PySem.W.Frag) (H : Hp) : V → Pt → Prop
  | pot {a dx : Addr} {n : Str} {g r : Int} (h : H a = some (.ins (ga K "Pot") dx [("name", .str n), ("gap", .int g)])) (hr : r < 0) : PotAt K H (.ref a) ⟨n, g, r⟩
  | cac {a dx : Addr} {n : Str} {g r : Int} (h : H a = some (.ins (ga K "Cactus") dx [("name", .str n), ("gap", .int g), ("rest", .int r)])) (hr : 0 ≤ r) : PotAt K H (.ref a) ⟨n, g, r⟩
def ordL (ps : List Pt) : List (Key × V) := ps.mapIdx fun i p => (Sum.inr p.name, V.int (i : Nat))
def grdF (l d : Addr) (g : Gd) : List (Str × V) := [("pots", .ref l), ("cans", .int g.cans), ("week", .int g.week), ("closed", .int g.closed), ("order", .ref d)]
structure GdIn (K : PySem.W.Frag) (H : Hp) (a l d : Addr) (ps : List V) (g : Gd) : Prop where
  obj : ∃ dx, H a = some (.ins (ga K "Garden") dx (grdF l d g))
  pots : H l = some (.lst ps)
  ord : H d = some (.dK (ordL g.pots))
  each : Paired (PotAt K H) ps g.pots
def GdAt (K : PySem.W.Frag) (H : Hp) (v : V) (g : Gd) : Prop := ∃ a l d ps, v = .ref a ∧ GdIn K H a l d ps g
theorem PotAt.mono {K : PySem.W.Frag} {H H' : Hp} (e : Ex H H') {v : V} {p : Pt} (h : PotAt K H v p) : PotAt K H' v p := by
  cases h with
  | pot h hr => exact .pot (e _ _ h) hr
  | cac h hr => exact .cac (e _ _ h) hr
theorem pairM {R R' : V → Pt → Prop} (h : ∀ v p, R v p → R' v p) : ∀ {vs : List V} {ps : List Pt}, Paired R vs ps → Paired R' vs ps
  | _, _, .nil => .nil
  | _, _, .cons a t => .cons (h _ _ a) (pairM h t)
theorem GdIn.mono {K : PySem.W.Frag} {H H' : Hp} (e : Ex H H') {a l d : Addr} {ps : List V} {g : Gd} (h : GdIn K H a l d ps g) : GdIn K H' a l d ps g :=
  ⟨let ⟨dx, q⟩ := h.obj; ⟨dx, e _ _ q⟩, e _ _ h.pots, e _ _ h.ord, pairM (fun _ _ q => q.mono e) h.each⟩
theorem GdAt.mono {K : PySem.W.Frag} {H H' : Hp} (e : Ex H H') {v : V} {g : Gd} (h : GdAt K H v g) : GdAt K H' v g := let ⟨a, l, d, ps, q, r⟩ := h; ⟨a, l, d, ps, q, r.mono e⟩
theorem pair_at {R : V → Pt → Prop} : ∀ {vs : List V} {ps : List Pt} {k : Nat} {p : Pt}, Paired R vs ps → ps[k]? = some p → ∃ v, vs[k]? = some v ∧ R v p
  | _, _, _, _, .nil, e => by simp at e
  | v :: vs, q :: ps, 0, p, .cons a t, e => by
    cases (show some q = some p from e)
    exact ⟨v, rfl, a⟩
  | v :: vs, q :: ps, k + 1, p, .cons a t, e => pair_at (k := k) t e
theorem pair_of {R : V → Pt → Prop} : ∀ {vs : List V} {ps : List Pt} {k : Nat} {v : V}, Paired R vs ps → vs[k]? = some v → ∃ p, ps[k]? = some p ∧ R v p
  | _, _, _, _, .nil, e => by simp at e
  | v :: vs, q :: ps, 0, p, .cons a t, e => by
    cases (show some v = some p from e)
    exact ⟨q, rfl, a⟩
  | v :: vs, q :: ps, k + 1, p, .cons a t, e => pair_of (k := k) t e
theorem lk0 {f : Str} {v : V} {l : List (Str × V)} : List.lookup f ((f, v) :: l) = some v := by simp [List.lookup]
theorem lkS {f g : Str} {v : V} {l : List (Str × V)} (h : ¬ g = f) : List.lookup g ((f, v) :: l) = List.lookup g l := by
  have : (g == f) = false := by simpa using h
  simp [List.lookup, this]
section
variable {l d : Addr} {g : Gd}
theorem gf_pots : (grdF l d g).lookup ("pots" : Str) = some (.ref l) := lk0
theorem gf_cans : (grdF l d g).lookup ("cans" : Str) = some (.int g.cans) := by rw [grdF, lkS (by decide +kernel)]; exact lk0
theorem gf_week : (grdF l d g).lookup ("week" : Str) = some (.int g.week) := by rw [grdF, lkS (by decide +kernel), lkS (by decide +kernel)]; exact lk0
theorem gf_closed : (grdF l d g).lookup ("closed" : Str) = some (.int g.closed) := by rw [grdF, lkS (by decide +kernel), lkS (by decide +kernel), lkS (by decide +kernel)]; exact lk0
theorem gf_order : (grdF l d g).lookup ("order" : Str) = some (.ref d) := by rw [grdF, lkS (by decide +kernel), lkS (by decide +kernel), lkS (by decide +kernel), lkS (by decide +kernel)]; exact lk0
theorem gf_no {m : Str} (h1 : ¬ m = "pots") (h2 : ¬ m = "cans") (h3 : ¬ m = "week") (h4 : ¬ m = "closed") (h5 : ¬ m = "order") : (grdF l d g).lookup m = none := by rw [grdF, lkS h1, lkS h2, lkS h3, lkS h4, lkS h5]; rfl
end
section
variable {K : PySem.W.Frag} {mg : Str → Option Value} {H H1 : Hp} {Q : VK} {a l d : Addr} {ps : List V} {g : Gd} {k : Hp → Prop}
/-- garden.f, the garden known at H, read at H1 -/
theorem g_pots (T : Txt K mg) (h : GdIn K H a l d ps g) (e : Ex H H1) (q : Q (.ref l) H1) : fldR K "pots" (.ref a) H1 Q := let ⟨_, o⟩ := h.obj; s_fld (e _ _ o) T.c_Garden T.n_Garden_pots gf_pots q
theorem g_cans (T : Txt K mg) (h : GdIn K H a l d ps g) (e : Ex H H1) (q : Q (.int g.cans) H1) : fldR K "cans" (.ref a) H1 Q := let ⟨_, o⟩ := h.obj; s_fld (e _ _ o) T.c_Garden T.n_Garden_cans gf_cans q
theorem g_week (T : Txt K mg) (h : GdIn K H a l d ps g) (e : Ex H H1) (q : Q (.int g.week) H1) : fldR K "week" (.ref a) H1 Q := let ⟨_, o⟩ := h.obj; s_fld (e _ _ o) T.c_Garden T.n_Garden_week gf_week q
theorem g_closed (T : Txt K mg) (h : GdIn K H a l d ps g) (e : Ex H H1) (q : Q (.int g.closed) H1) : fldR K "closed" (.ref a) H1 Q := let ⟨_, o⟩ := h.obj; s_fld (e _ _ o) T.c_Garden T.n_Garden_closed gf_closed q
theorem g_order (T : Txt K mg) (h : GdIn K H a l d ps g) (e : Ex H H1) (q : Q (.ref d) H1) : fldR K "order" (.ref a) H1 Q := let ⟨_, o⟩ := h.obj; s_fld (e _ _ o) T.c_Garden T.n_Garden_order gf_order q
theorem g_rcv {m : Str} (h : GdIn K H a l d ps g) (e : Ex H H1) (h1 : ¬ m = "pots") (h2 : ¬ m = "cans") (h3 : ¬ m = "week") (h4 : ¬ m = "closed") (h5 : ¬ m = "order") (q : k H1) : rcv (ga K "Garden") m (.ref a) H1 k := let ⟨_, o⟩ := h.obj; s_rcv (e _ _ o) (gf_no h1 h2 h3 h4 h5) q
theorem p_name (T : Txt K mg) {v : V} {p : Pt} (h : PotAt K H v p) (e : Ex H H1) (q : Q (.str p.name) H1) : fldR K "name" v H1 Q := by
  cases h with
  | pot h hr => exact s_fld (e _ _ h) T.c_Pot T.n_Pot_name lk0 q
  | cac h hr => exact s_fld (e _ _ h) T.c_Cactus T.n_Cactus_name lk0 q
theorem p_gap (T : Txt K mg) {v : V} {p : Pt} (h : PotAt K H v p) (e : Ex H H1) (q : Q (.int p.gap) H1) : fldR K "gap" v H1 Q := by
  cases h with
  | pot h hr => exact s_fld (e _ _ h) T.c_Pot T.n_Pot_gap (by rw [lkS (by decide +kernel)]; exact lk0) q
  | cac h hr => exact s_fld (e _ _ h) T.c_Cactus T.n_Cactus_gap (by rw [lkS (by decide +kernel)]; exact lk0) q
/-- garden.pots[k] -/
theorem g_pot (h : GdIn K H a l d ps g) (e : Ex H H1) {i : Nat} {p : Pt} (hp : g.pots[i]? = some p) (q : ∀ v, PotAt K H v p → Q v H1) : rIxL K (.ref l) (.int (i : Nat)) H1 Q := by
  obtain ⟨v, hv, hq⟩ := pair_at h.each hp
  exact s_ixL (e _ _ h.pots) (at_nat hv) (q v hq)
theorem GdIn.len (h : GdIn K H a l d ps g) : ps.length = g.pots.length := Paired.length h.each
end
/-! ### built-ins' readings, named -/
def rLenQ (K : PySem.W.Frag) : List V → Hp → VK → Prop := fun xs H Q => ∃ p ys, xs = [.ref p] ∧ (SqL K H p ys ∨ SqT K H p ys) ∧ Q (.int ys.length) H
def rLenX : List V → Hp → VK → Prop := fun xs H Q => ∃ z, xs = [.str z] ∧ z.length ≤ sizeLine ∧ Q (.int z.length) H
def rListO (K : PySem.W.Frag) : List V → Hp → VK → Prop := fun xs H Q => ∃ p ys, xs = [.ref p] ∧ (SqL K H p ys ∨ SqT K H p ys) ∧ ∀ l, H l = none → Q (.ref l) (upd H l (.lst ys))
def rTupO (K : PySem.W.Frag) : List V → Hp → VK → Prop := fun xs H Q => ∃ p ys, xs = [.ref p] ∧ ((SqL K H p ys ∧ ∀ l, H l = none → Q (.ref l) (upd H l (.tup ys))) ∨ (SqT K H p ys ∧ Q (.ref p) H))
def rDivm : List V → Hp → VK → Prop := fun xs H Q => ∃ i j, xs = [.int i, .int j] ∧ CDiv i j ∧ ∀ p, H p = none → Q (.ref p) (upd H p (.tup [.int (i / j), .int (i % j)]))
def rInt1 : List V → Hp → VK → Prop := fun xs H Q => (∃ i, xs = [.int i] ∧ Q (.int i) H) ∨ ∃ k, xs = [.bl k] ∧ Q (.int (if k then 1 else 0)) H
theorem call_lenQ {X : Cx} : CallR X (.builtin "len") (rLenQ X.K) := call_len_seq
theorem call_lenX {X : Cx} : CallR X (.builtin "len") rLenX := call_len_str
theorem call_listO {X : Cx} : CallR X (.type "list") (rListO X.K) := call_list_of
theorem call_tupO {X : Cx} : CallR X (.type "tuple") (rTupO X.K) := call_tuple_of
theorem call_divm {X : Cx} : CallR X (.builtin "divmod") rDivm := call_divmod
theorem call_int1' {X : Cx} : CallR X (.type "int") rInt1 := call_int1
section
variable {K : PySem.W.Frag} {H : Hp} {Q : VK} {p : Addr} {xs : List V}
theorem s_lenL (h : H p = some (.lst xs)) (q : Q (.int (xs.length : Nat)) H) : rLenQ K [.ref p] H Q := ⟨p, xs, rfl, .inl (SqL.of h), q⟩
theorem s_lenT (h : H p = some (.tup xs)) (q : Q (.int (xs.length : Nat)) H) : rLenQ K [.ref p] H Q := ⟨p, xs, rfl, .inr (SqT.of h), q⟩
theorem s_lenX {z : Str} (h : z.length ≤ 100000) (q : Q (.int (z.length : Nat)) H) : rLenX [.str z] H Q := ⟨z, rfl, sz_of h, q⟩
theorem s_listL (h : H p = some (.lst xs)) (q : ∀ l, H l = none → Q (.ref l) (upd H l (.lst xs))) : rListO K [.ref p] H Q := ⟨p, xs, rfl, .inl (SqL.of h), q⟩
theorem s_tupL (h : H p = some (.lst xs)) (q : ∀ l, H l = none → Q (.ref l) (upd H l (.tup xs))) : rTupO K [.ref p] H Q := ⟨p, xs, rfl, .inl ⟨SqL.of h, q⟩⟩
theorem s_divm {i j : Int} (h : CDiv i j) (q : ∀ p, H p = none → Q (.ref p) (upd H p (.tup [.int (i / j), .int (i % j)]))) : rDivm [.int i, .int j] H Q := ⟨i, j, rfl, h, q⟩
theorem s_int1B {b : Bool} (q : Q (.int (if b then 1 else 0)) H) : rInt1 [.bl b] H Q := .inr ⟨b, rfl, q⟩
end
theorem StA.mono {H H' : Hp} (e : Ex H H') {v : V} {st : Stt} (h : StA H v st) : StA H' v st := let ⟨a, b, q, h1, h2⟩ := h; ⟨a, b, q, e _ _ h1, e _ _ h2⟩
/-! ### a function of a class, as a bundle -/
structure Fx (P : Program) (w : World) (K : PySem.W.Frag) (mg : Str → Option Value) (base : Heap) (CX : CXT) (k : Nat) (f : Addr) (ps : List Str) (sp : Sp) : Prop where
  ex : ∃ fd, FnOk P w K mg base CX k f fd ps sp ∧ PySem.W.keepIn K (.ref f) = true ∧ Binds K fd ps []
section
variable {X : Cx} {CX : CXT} {k : Nat} {C : Addr} {ps : List Str} {sp : Sp} {E : XK} {m : Str} {pos apos : Pos} {e : Expr} {es : List Expr} {t : TA}
theorem pe_clsfx {pl : Sem Bool} {f : Addr} {c : Str} {p2 : Pos} (F : Fx X.prog X.w X.K X.mg X.base CX k f ps sp) (hr : Room k X.A) (hg : Gl X c) (hm : X.mg c = some (.ref C)) (V : CV X.K C m (.ref f))
    (hx : Passes CX X E) (ha : PA X (e :: es) t) (hdb : (c == ("__debug__" : Str)) = false := by decide)
    (hst : starEach (e :: es) X.env = (false, eval e X.env) :: starEach es X.env := by rfl) (hpl : (backTo pos (starEach es X.env)).any (·.1) = false := by rfl)
    (ht : eval (.Call (.Attribute (.Name c p2) m apos) (e :: es) [] pos) X.env = (do
      let ov ← eval (.Name c p2) X.env
      standAt apos.atName
      let (f, first) ← holding [ov] (getMethod ov m pl)
      callWith pos f first (backTo pos (starEach (e :: es) X.env)) (backToKw pos (keywordEach [] X.env))) := by rfl) :
    PE X (.Call (.Attribute (.Name c p2) m apos) (e :: es) [] pos) (tClsFn sp E t) := by
  obtain ⟨fd, O, hk, hb⟩ := F.ex
  exact pe_clsfn O hr hg hm V hk hb hx ha hdb hst hpl ht
end
section
variable {K : PySem.W.Frag} {H : Hp} {Q : VK} {N : Hp → Prop}
theorem s_isi {x c : V} {t u : Value} {b : Bool} (hc : ClsV c u) (ht : TyX K H x t) (hk : PySem.W.kitOne K t u = some b) (q : Q (.bl b) H) : rIsi K [x, c] H Q := ⟨x, c, t, u, b, rfl, hc, ht, hk, q⟩
theorem s_isiI {i : Int} {n : String} {b : Bool} (hk : kitB "int" n = some b) (q : Q (.bl b) H) : rIsi K [.int i, .ty n] H Q := s_isi (.ty n) (.base (.int i)) (kit_ty hk) q
theorem s_isiS {i : Str} {n : String} {b : Bool} (hk : kitB "str" n = some b) (q : Q (.bl b) H) : rIsi K [.str i, .ty n] H Q := s_isi (.ty n) (.base (.str i)) (kit_ty hk) q
theorem s_isiN {n : String} {b : Bool} (hk : kitB "NoneType" n = some b) (q : Q (.bl b) H) : rIsi K [.non, .ty n] H Q := s_isi (.ty n) (.base .non) (kit_ty hk) q
theorem s_isiB {i : Bool} {n : String} {b : Bool} (hk : kitB "bool" n = some b) (q : Q (.bl b) H) : rIsi K [.bl i, .ty n] H Q := s_isi (.ty n) (.base (.bl i)) (kit_ty hk) q
theorem s_isiT {a : Addr} {xs : List V} {n : String} {b : Bool} (e : H a = some (.tup xs)) (hk : kitB "tuple" n = some b) (q : Q (.bl b) H) : rIsi K [.ref a, .ty n] H Q := s_isi (.ty n) (.base (.tup e)) (kit_ty hk) q
theorem s_isiL {a : Addr} {xs : List V} {n : String} {b : Bool} (e : H a = some (.lst xs)) (hk : kitB "list" n = some b) (q : Q (.bl b) H) : rIsi K [.ref a, .ty n] H Q := s_isi (.ty n) (.base (.lst e)) (kit_ty hk) q
theorem s_fldS {f : Str} {y : V} {a C dx : Addr} {fs : List (Str × V)} (h : H a = some (.ins C dx fs)) (c : Cls K C) (n : NoAttr K C f) (l : fs.length < 1000) (q : N (upd H a (.ins C dx (putF f y fs)))) : fldS K f (.ref a) y H N := ⟨a, C, dx, fs, rfl, h, c, n, l, q⟩
theorem s_make {C : Addr} {sp : Sp} {vs : List V} {E : XK} (q : ∀ x dx, H x = none → H dx = none → dx ≠ x → sp (.ref x :: vs) (upd (upd H dx (.own x)) x (.ins C dx [])) (fun v H2 => v = .non ∧ Q (.ref x) H2) E) : mkI C sp vs H Q E := q
theorem bT_of {b : Bool} {R : Bool → Hp → Prop} (q : R b H) : bT (.bl b) H R := ⟨b, rfl, q⟩
end
/-! ### loops, comprehensions: their iterables read -/
def loopW (J : It) (g : TG) (tb : TS) (D : Ends) (σ : St) (H : Hp) : Prop := ∃ W : Nat → Nat → St → Hp → Prop, (∃ m, W 0 m σ H) ∧ ∀ i m σ H, W i m σ H →
  (J.stop i H ∧ D.nx σ H) ∨ (J.go i H ∧ ∃ N : St → Hp → Prop, (∀ σ' H', N σ' H' → ∃ m', m' < m ∧ W (i + 1) m' σ' H') ∧ ∀ x H', J.yld i H x H' → g x σ H' fun σ2 H2 => tb { D with nx := N, ct := N, bk := D.nx } σ2 H2)
def lcW (J : It) (g : TG) (tt : TT) (te : TE) (vs : List Nat) (σ : St) (H : Hp) (Q : VK) : Prop := ∀ D, H D = none → ∃ W : Nat → Nat → Hp → Prop, (∃ m, W 0 m (upd H D (.lst []))) ∧ ∀ i m H, W i m H →
  (J.stop i H ∧ Q (.ref D) H) ∨ (J.go i H ∧ ∃ Nx : Hp → Prop, (∀ H', Nx H' → ∃ m', m' < m ∧ W (i + 1) m' H') ∧ ∀ x H', J.yld i H x H' → g x (wipe σ vs) H' fun σ2 H2 => wipe σ2 vs = wipe σ vs ∧ tt σ2 H2 fun b H3 =>
    if b = true then te σ2 H3 fun y H4 => ∃ acc, H4 D = some (.lst acc) ∧ acc.length < sizeLine ∧ Nx (upd H4 D (.lst (acc ++ [y]))) else Nx H3)
def forL (K : PySem.W.Frag) (x : V) (g : TG) (tb : TS) (D : Ends) (σ : St) (H : Hp) : Prop := ∃ a, x = .ref a ∧ (∃ xs, SqL K H a xs) ∧ loopW (Itl K a) g tb D σ H
def forT (K : PySem.W.Frag) (x : V) (g : TG) (tb : TS) (D : Ends) (σ : St) (H : Hp) : Prop := ∃ a, x = .ref a ∧ (∃ xs, SqT K H a xs) ∧ loopW (Itt K a) g tb D σ H
def forR (vs : List V) (g : TG) (tb : TS) (D : Ends) (σ : St) (H : Hp) : Prop := ∃ j : Int, vs = [.int j] ∧ -(2 ^ 62) ≤ j ∧ j < 2 ^ 62 ∧ loopW (Itr 0 j.toNat) g tb D σ H
def lcL (K : PySem.W.Frag) (x : V) (g : TG) (tt : TT) (te : TE) (vs : List Nat) (σ : St) (H : Hp) (Q : VK) : Prop := ∃ a, x = .ref a ∧ (∃ xs, SqL K H a xs) ∧ lcW (Itl K a) g tt te vs σ H Q
def lcR (us : List V) (g : TG) (tt : TT) (te : TE) (vs : List Nat) (σ : St) (H : Hp) (Q : VK) : Prop := ∃ j : Int, us = [.int j] ∧ -(2 ^ 62) ≤ j ∧ j < 2 ^ 62 ∧ lcW (Itr 0 j.toNat) g tt te vs σ H Q
section
variable {K : PySem.W.Frag} {H : Hp} {Q : VK} {D : Ends} {σ : St} {g : TG} {tb : TS} {te elt : TE} {ta : TA} {tt : TT} {vs : List Nat}
theorem a_forL : tFor (iList K te) g tb D σ H = te σ H fun x H1 => forL K x g tb D σ H1 := rfl
theorem a_forT : tFor (iTup K te) g tb D σ H = te σ H fun x H1 => forT K x g tb D σ H1 := rfl
theorem a_forR : tFor (iRng1 ta) g tb D σ H = ta σ H fun us H1 => forR us g tb D σ H1 := rfl
theorem a_lcL : tLc (iList K te) g tt elt vs σ H Q = te σ H fun x H1 => lcL K x g tt elt vs σ H1 Q := rfl
theorem a_lcR : tLc (iRng1 ta) g tt elt vs σ H Q = ta σ H fun us H1 => lcR us g tt elt vs σ H1 Q := rfl
theorem a_yes {R : Bool → Hp → Prop} : tYes σ H R = R true H := rfl
theorem a_w0 : wipe σ [] = σ := rfl
theorem a_w1 {v : Nat} {l : List Nat} : wipe σ (v :: l) = (wipe σ l).set v none := rfl
theorem s_forL {a : Addr} {xs : List V} (h : H a = some (.lst xs)) (Pv : Nat → St → Hp → Prop) (h0 : Pv 0 σ H) (hl : ∀ i σ H, i ≤ xs.length → Pv i σ H → H a = some (.lst xs))
    (hs : ∀ (N : St → Hp → Prop) i x σ H, xs[i]? = some x → Pv i σ H → (∀ σ H, Pv (i + 1) σ H → N σ H) → g x σ H fun σ2 H2 => tb { D with nx := N, ct := N, bk := D.nx } σ2 H2) (hd : ∀ σ H, Pv xs.length σ H → D.nx σ H) : forL K (.ref a) g tb D σ H :=
  ⟨a, rfl, ⟨xs, SqL.of h⟩, for_list (K := K) (a := a) (xs := xs) Pv h0 (fun i σ H hi p => SqL.of (hl i σ H hi p)) (fun i x σ H hx p => hs (Pv (i + 1)) i x σ H hx p fun _ _ q => q) hd⟩
theorem s_forT {a : Addr} {xs : List V} (h : H a = some (.tup xs)) (Pv : Nat → St → Hp → Prop) (h0 : Pv 0 σ H) (hl : ∀ i σ H, i ≤ xs.length → Pv i σ H → H a = some (.tup xs))
    (hs : ∀ (N : St → Hp → Prop) i x σ H, xs[i]? = some x → Pv i σ H → (∀ σ H, Pv (i + 1) σ H → N σ H) → g x σ H fun σ2 H2 => tb { D with nx := N, ct := N, bk := D.nx } σ2 H2) (hd : ∀ σ H, Pv xs.length σ H → D.nx σ H) : forT K (.ref a) g tb D σ H :=
  ⟨a, rfl, ⟨xs, SqT.of h⟩, for_tup (K := K) (a := a) (xs := xs) Pv h0 (fun i σ H hi p => SqT.of (hl i σ H hi p)) (fun i x σ H hx p => hs (Pv (i + 1)) i x σ H hx p fun _ _ q => q) hd⟩
theorem s_forR {n : Nat} (hn : n ≤ 100000) (Pv : Nat → St → Hp → Prop) (h0 : Pv 0 σ H) (hs : ∀ (N : St → Hp → Prop) (i : Nat) σ H, i < n → Pv i σ H → (∀ σ H, Pv (i + 1) σ H → N σ H) → g (.int (i : Nat)) σ H fun σ2 H2 => tb { D with nx := N, ct := N, bk := D.nx } σ2 H2)
    (hd : ∀ σ H, Pv n σ H → D.nx σ H) : forR [.int (n : Nat)] g tb D σ H := by
  refine ⟨(n : Nat), rfl, by omega, by omega, for_range (lo := 0) (n := n) Pv h0 (fun i σ H hi p => ?_) hd⟩
  have := hs (Pv (i + 1)) i σ H hi p fun _ _ q => q
  rwa [Int.zero_add]
/-- the general comprehension: what is made so far stands at D; the rest of the heap only grows -/
def lcG (H : Hp) (D : Addr) (Pv : Nat → List V → Hp → Prop) (i : Nat) (H1 : Hp) : Prop := ∃ acc, H1 D = some (.lst acc) ∧ acc.length ≤ i ∧ Ex H (del H1 D) ∧ Pv i acc (del H1 D)
def lcN (H : Hp) (D : Addr) (Pv : Nat → List V → Hp → Prop) (i : Nat) (y : V) (H4 : Hp) : Prop := ∃ acc, H4 D = some (.lst acc) ∧ acc.length < sizeLine ∧ lcG H D Pv (i + 1) (upd H4 D (.lst (acc ++ [y])))
theorem lc_y {H H1 H4 : Hp} {D : Addr} {Pv : Nat → List V → Hp → Prop} {i : Nat} {y : V} {acc : List V} (hi : i < 100000) (h1 : H1 D = some (.lst acc)) (h2 : acc.length ≤ i) (e : Ex H (del H1 D)) (e4 : Ex H1 H4) (p : Pv (i + 1) (acc ++ [y]) (del H4 D)) : lcN H D Pv i y H4 := by
  refine ⟨acc, e4 _ _ h1, sz_lt (by omega), acc ++ [y], upd_same, by simp; omega, ?_, ?_⟩
  · rw [del_upd]
    exact e.trans (ex_del2 e4)
  · rw [del_upd]
    exact p
theorem lc_n {H H1 H4 : Hp} {D : Addr} {Pv : Nat → List V → Hp → Prop} {i : Nat} {acc : List V} (h1 : H1 D = some (.lst acc)) (h2 : acc.length ≤ i) (e : Ex H (del H1 D)) (e4 : Ex H1 H4) (p : Pv (i + 1) acc (del H4 D)) : lcG H D Pv (i + 1) H4 :=
  ⟨acc, e4 _ _ h1, by omega, e.trans (ex_del2 e4), p⟩
theorem lc_0 {H : Hp} {D : Addr} {Pv : Nat → List V → Hp → Prop} (hD : H D = none) (h0 : Pv 0 [] H) : lcG H D Pv 0 (upd H D (.lst [])) := by
  refine ⟨[], upd_same, Nat.le_refl _, ex_into (Ex.new hD) hD, ?_⟩
  have e : del (upd H D (.lst [])) D = H := funext fun b => by
    by_cases z : b = D
    · subst z; rw [del_same, hD]
    · rw [del_ne z, upd_ne z]
  rw [e]
  exact h0
theorem s_lcL {a : Addr} {xs : List V} (h : H a = some (.lst xs)) (Pv : Nat → List V → Hp → Prop) (h0 : Pv 0 [] H)
    (hs : ∀ i x acc D H1, H D = none → xs[i]? = some x → H1 D = some (.lst acc) → acc.length ≤ i → Ex H (del H1 D) → Pv i acc (del H1 D) → g x (wipe σ vs) H1 fun σ2 H2 => wipe σ2 vs = wipe σ vs ∧ tt σ2 H2 fun b H3 =>
      if b = true then elt σ2 H3 fun y H4 => lcN H D Pv i y H4 else lcG H D Pv (i + 1) H3)
    (hd : ∀ D H1 acc, H D = none → H1 D = some (.lst acc) → acc.length ≤ xs.length → Ex H (del H1 D) → Pv xs.length acc (del H1 D) → Q (.ref D) H1) : lcL K (.ref a) g tt elt vs σ H Q :=
  ⟨a, rfl, ⟨xs, SqL.of h⟩, fun D hD => lc_list (K := K) (a := a) (xs := xs) (lcG H D Pv) (lc_0 hD h0) (fun i H1 hi ⟨acc, _, _, e, _⟩ => SqL.of (ex_del _ _ (e _ _ h))) (fun i x H1 hx ⟨acc, h1, h2, e, p⟩ => hs i x acc D H1 hD hx h1 h2 e p)
    fun H1 ⟨acc, h1, h2, e, p⟩ => hd D H1 acc hD h1 h2 e p⟩
theorem s_lcR {n : Nat} (hl : n ≤ 90000) (Pv : Nat → List V → Hp → Prop) (h0 : Pv 0 [] H)
    (hs : ∀ (i : Nat) acc D H1, H D = none → i < n → H1 D = some (.lst acc) → acc.length ≤ i → Ex H (del H1 D) → Pv i acc (del H1 D) → g (.int (i : Nat)) (wipe σ vs) H1 fun σ2 H2 => wipe σ2 vs = wipe σ vs ∧ tt σ2 H2 fun b H3 =>
      if b = true then elt σ2 H3 fun y H4 => lcN H D Pv i y H4 else lcG H D Pv (i + 1) H3)
    (hd : ∀ D H1 acc, H D = none → H1 D = some (.lst acc) → acc.length ≤ n → Ex H (del H1 D) → Pv n acc (del H1 D) → Q (.ref D) H1) : lcR [.int (n : Nat)] g tt elt vs σ H Q := by
  refine ⟨(n : Nat), rfl, by omega, by omega, fun D hD => lc_range (lo := 0) (n := n) (lcG H D Pv) (lc_0 hD h0) (fun i H1 hx q => ?_) fun H1 ⟨acc, h1, h2, e, p⟩ => hd D H1 acc hD h1 h2 e p⟩
  obtain ⟨acc, h1, h2, e, p⟩ := q
  have z := hs i acc D H1 hD hx h1 h2 e p
  rwa [Int.zero_add]
end
/-! ### dicts -/
def dgR (x y : V) (H : Hp) (Q : VK) : Prop := ∃ a v, x = .ref a ∧ DGet H a y (some v) ∧ Q v H
def diR (x y : V) (H : Hp) (R : Bool → Hp → Prop) : Prop := ∃ a o, x = .ref a ∧ DGet H a y o ∧ R o.isSome H
def dpR (x y v : V) (H : Hp) (N : Hp → Prop) : Prop := ∃ a H4, x = .ref a ∧ DPut H a y v H4 ∧ N H4
def nwD (H : Hp) (Q : VK) : Prop := ∀ p, H p = none → Q (.ref p) (upd H p (.dK []))
def rvR (K : PySem.W.Frag) (x : V) (H : Hp) (Q : VK) : Prop := ∃ a xs, x = .ref a ∧ SqL K H a xs ∧ ∀ p, H p = none → Q (.ref p) (upd H p (.lst xs.reverse))
def gnR (P : Program) (w : World) (x y : V) (H : Hp) (Q : VK) : Prop := ∃ d a es st v, x = .ref d ∧ y = .ref a ∧ H d = some (DN P w d es) ∧ KeysAt H es ∧ StA H y st ∧ lookS es st = some v ∧ Q v H
def pnR (P : Program) (w : World) (x y v : V) (H : Hp) (N : Hp → Prop) : Prop := ∃ d a es st, x = .ref d ∧ y = .ref a ∧ H d = some (DN P w d es) ∧ KeysAt H es ∧ StA H y st ∧ lookS es st = none ∧ es.length ≤ 1000000 ∧ N (upd H d (DN P w d (es ++ [(st, a, v)])))
def nwN (P : Program) (w : World) (H : Hp) (Q : VK) : Prop := ∀ d, H d = none → Q (.ref d) (upd H d (DN P w d []))
section
variable {K : PySem.W.Frag} {P : Program} {w : World} {H : Hp} {Q : VK} {D : Ends} {σ : St} {td ty tv te : TE}
theorem a_dget : tDGet td ty σ H Q = td σ H fun x H1 => ty σ H1 fun y H2 => dgR x y H2 Q := rfl
theorem a_din : tDIn ty td σ H Q = ty σ H fun y H1 => td σ H1 fun x H2 => diR x y H2 fun b H3 => Q (.bl b) H3 := rfl
theorem a_dnotin : tDNotIn ty td σ H Q = ty σ H fun y H1 => td σ H1 fun x H2 => diR x y H2 fun b H3 => Q (.bl (!b)) H3 := rfl
theorem a_dput : sDPut td ty tv D σ H = tv σ H fun v H1 => td σ H1 fun x H2 => ty σ H2 fun y H3 => dpR x y v H3 fun H4 => D.nx σ H4 := rfl
theorem a_newK : tDNewK σ H Q = nwD H Q := rfl
theorem a_revL : tRevL K te σ H Q = te σ H fun x H1 => rvR K x H1 Q := rfl
theorem a_getN : tGetN P w td ty σ H Q = td σ H fun x H1 => ty σ H1 fun y H2 => gnR P w x y H2 Q := rfl
theorem a_putN : sPutN P w td ty tv D σ H = tv σ H fun v H1 => td σ H1 fun x H2 => ty σ H2 fun y H3 => pnR P w x y v H3 fun H4 => D.nx σ H4 := rfl
theorem a_newN : tNewN P w σ H Q = nwN P w H Q := rfl
end
theorem a_nn {p : Prop} : (V.non = V.non ∧ p) = p := propext ⟨fun h => h.2, fun h => ⟨rfl, h⟩⟩
theorem hu_1 {k : Nat} {A : Around} (r : Room k A) : A.units + 1 < cLine := by have := r.un; omega
theorem hu_9 {k : Nat} {A : Around} (r : Room k A) : A.units + 9 < cLine := by have := r.un; omega
theorem hu_64 {k : Nat} {A : Around} (r : Room k A) : A.units + 64 < cLine := by have := r.un; omega
theorem hu_65 {k : Nat} {A : Around} (r : Room k A) : A.units + 65 < cLine := by have := r.un; omega
section
variable {K : PySem.W.Frag} {H : Hp} {Q : VK} {p : Addr} {xs : List V}
theorem s_rev (h : H p = some (.lst xs)) (q : ∀ r, H r = none → Q (.ref r) (upd H r (.lst xs.reverse))) : rvR K (.ref p) H Q := ⟨p, xs, rfl, SqL.of h, q⟩
theorem s_slL {lo hi : Option Int} (h : H p = some (.lst xs)) (q : ∀ r, H r = none → Q (.ref r) (upd H r (.lst (cutV xs lo hi)))) : rSlL K (.ref p) lo hi H Q := ⟨p, xs, rfl, SqL.of h, q⟩
theorem s_cat {a b : Addr} {xs ys : List V} (h : H a = some (.lst xs)) (g : H b = some (.lst ys)) (hl : xs.length + ys.length ≤ 100000) (q : ∀ p, H p = none → Q (.ref p) (upd H p (.lst (xs ++ ys)))) : rCat (.ref a) (.ref b) H Q := ⟨a, b, xs, ys, rfl, rfl, h, g, sz_of hl, q⟩
end
def rLenD : List V → Hp → VK → Prop := fun xs H Q => ∃ a kvs, xs = [V.ref a] ∧ H a = some (.dK kvs) ∧ Q (.int kvs.length) H
theorem call_lenDD {X : Cx} : CallR X (.builtin "len") rLenD := L2.call_lenD
theorem ordL_from : ∀ (ps : List Pt) (n : Nat) (s : Str), valV (ps.mapIdx fun i p => ((Sum.inr p.name : Key), V.int ((n + i : Nat) : Int))) (Sum.inr s) = (nameIx ps s).map fun i => V.int ((n + i : Nat) : Int)
  | [], _, _ => rfl
  | p :: ps, n, s => by
    rw [List.mapIdx_cons]
    by_cases h : p.name = s
    · rw [valV_pos (by rw [h])]
      unfold nameIx
      rw [if_pos h]
      rfl
    · rw [valV_neg (by intro q; exact h (Sum.inr.inj q))]
      unfold nameIx
      rw [if_neg h]
      have := ordL_from ps (n + 1) s
      have e : (fun (i : Nat) (p : Pt) => ((Sum.inr p.name : Key), V.int ((n + (i + 1) : Nat) : Int))) = fun i p => ((Sum.inr p.name : Key), V.int ((n + 1 + i : Nat) : Int)) := by
        funext i p
        rw [show n + (i + 1) = n + 1 + i by omega]
      rw [e, this, Option.map_map]
      congr 1
      funext i
      show V.int _ = V.int _
      rw [show n + 1 + i = n + (i + 1) by omega]
theorem ordL_get (ps : List Pt) (s : Str) : valV (ordL ps) (Sum.inr s) = (nameIx ps s).map fun i => V.int ((i : Nat) : Int) := by
  have := ordL_from ps 0 s
  simpa [ordL] using this
section
variable {H : Hp} {Q : VK} {R : Bool → Hp → Prop} {d : Addr} {kvs : List (Key × V)} {s : Str}
theorem s_dinS (h : H d = some (.dK kvs)) (q : R (valV kvs (Sum.inr s)).isSome H) : diR (.ref d) (.str s) H R := ⟨d, _, rfl, DGet.k (k := Sum.inr s) h, q⟩
theorem s_dgetS {v : V} (h : H d = some (.dK kvs)) (e : valV kvs (Sum.inr s) = some v) (q : Q v H) : dgR (.ref d) (.str s) H Q := ⟨d, v, rfl, by have := DGet.k (k := Sum.inr s) h; rw [e] at this; exact this, q⟩
end
section
variable {K : PySem.W.Frag} {H : Hp} {Q : VK} {F : Addr} {xs : List V} {y : V} {k : Hp → Prop}
theorem s_bm (h : H F = some (.lst xs)) (q : k H) : bmR K "list" (.ref F) H k := ⟨.inl ⟨rfl, _, SqL.of h⟩, q⟩
theorem s_apq (h : H F = some (.lst xs)) (hl : xs.length < 100000) (q : Q .non (upd H F (.lst (xs ++ [y])))) : rAppend (.ref F) [y] H Q := ⟨F, xs, y, rfl, rfl, h, sz_lt hl, q⟩
end
/-! ### exceptions -/
def veR (K : PySem.W.Frag) (vs : List V) (H : Hp) (Q : VK) : Prop := ∃ (a C : Addr) (ws : List V), vs = .ref a :: ws ∧ ws.length ≤ 1000 ∧ OexC K C ∧ H a = some (exo a C none) ∧ Q .non H
def osR (K : PySem.W.Frag) (f : Str) (y x : V) (H2 : Hp) (N : Hp → Prop) : Prop := ∃ a C : Addr, x = .ref a ∧ OexC K C ∧ PySem.W.findIn K (.ref C) f = some none ∧
  ((H2 a = some (exo a C none) ∧ ∀ dx, H2 dx = none → dx ≠ a → N (upd (upd H2 dx (exd dx [(f, y)])) a (exo a C (some dx)))) ∨
    ∃ (dx : Addr) (fs : List (Str × V)), H2 a = some (exo a C (some dx)) ∧ H2 dx = some (exd dx fs) ∧ fs.length ≤ 900 ∧ N (upd H2 dx (exd dx ((f, y) :: fs))))
def mkK (C : Addr) (f : Str) (v : V) (H : Hp) (Q : XK) : Prop := ∀ d, H d = none → Q (.ref C) (some d) (upd H d (.xd [(f, v)]))
section
variable {K : PySem.W.Frag} {H : Hp} {Q : VK} {R : XK} {D : Ends} {σ : St} {te to : TE} {ta : TA} {C : Addr} {f : Str}
theorem a_veI : tVeI K ta σ H Q = ta σ H fun vs H1 => veR K vs H1 Q := rfl
theorem a_ost : tOst K f to te D σ H = te σ H fun y H1 => to σ H1 fun x H2 => osR K f y x H2 fun H3 => D.nx σ H3 := rfl
theorem a_mkK : tMkKeep C f te σ H R = te σ H fun v H1 => mkK C f v H1 R := rfl
end
section
variable {X : Cx}
theorem mk_bad {k : Nat} {e : Expr} {te : TE} {p pos : Pos} (T : Txt X.K X.mg) (F : Fx X.prog X.w X.K X.mg X.base CX0 k (ma X.K (ga X.K "BadDay") "__init__") ["self", "day"] (spKeep (ga X.K "BadDay") "day")) (hr : Room (k + 1) X.A) (hg : Gl X "BadDay") (ha : PE X e te)
    (he : starEach (e :: []) X.env = (false, eval e X.env) :: starEach [] X.env := by rfl) (hpl : (backTo pos (starEach [] X.env)).any (·.1) = false := by rfl) :
    PMk X (.Call (.Name "BadDay" p) [e] [] pos) (tMkKeep (ga X.K "BadDay") "day" te) := by
  obtain ⟨fd, O, _, hb⟩ := F.ex
  exact pmk_keep T.oex T.initBD T.initTy O hr hb hg T.g_BadDay ha (by decide) he hpl
end
/-! ### data that may be compared -/
theorem nameD_lay {d : PyData} (h : NameD d) : d.canLay0 = true ∧ d.depth ≤ 1 := by
  rcases h with ⟨s, hs, rfl⟩ | rfl | rfl | rfl
  · exact ⟨by simp [PyData.canLay0, hs], by simp [PyData.depth]⟩
  · exact ⟨by simp [PyData.canLay0], by simp [PyData.depth]⟩
  · exact ⟨by simp [PyData.canLay0], by simp [PyData.depth]⟩
  · exact ⟨by decide +kernel, by simp [PyData.depth, PyData.depthAll]⟩
theorem all_lay {n : Nat} : ∀ {ds : List PyData}, (∀ d ∈ ds, d.canLay0 = true ∧ d.depth ≤ n) → PyData.canLayAll0 ds = true ∧ PyData.depthAll ds ≤ n
  | [], _ => ⟨by simp [PyData.canLayAll0], by simp [PyData.depthAll]⟩
  | d :: ds, h => by
    obtain ⟨h1, h2⟩ := h d List.mem_cons_self
    obtain ⟨k1, k2⟩ := all_lay (ds := ds) fun e he => h e (List.mem_cons_of_mem _ he)
    refine ⟨by simp [PyData.canLayAll0, h1, k1], ?_⟩
    simp only [PyData.depthAll]
    omega
theorem list_lay {n : Nat} {ds : List PyData} (h : ∀ d ∈ ds, d.canLay0 = true ∧ d.depth ≤ n) : (PyData.list ds).canLay0 = true ∧ (PyData.list ds).depth ≤ n + 1 := by
  obtain ⟨h1, h2⟩ := all_lay h
  exact ⟨by simp [PyData.canLay0, h1], by simp only [PyData.depth]; omega⟩
theorem tup_lay {n : Nat} {ds : List PyData} (h : ∀ d ∈ ds, d.canLay0 = true ∧ d.depth ≤ n) : (PyData.tuple ds).canLay0 = true ∧ (PyData.tuple ds).depth ≤ n + 1 := by
  obtain ⟨h1, h2⟩ := all_lay h
  exact ⟨by simp [PyData.canLay0, h1], by simp only [PyData.depth]; omega⟩
theorem shaped_lay {n : Nat} {d : PyData} (h : d.canLay0 = true ∧ d.depth ≤ n) (hn : n ≤ 64) : SeqAt.shaped d = true := by
  unfold SeqAt.shaped
  rw [h.1, decide_eq_true (Nat.le_trans h.2 hn)]
  rfl
theorem row_lay {row : List PyData} (h : RowD row) : (PyData.list row).canLay0 = true ∧ (PyData.list row).depth ≤ 2 := list_lay fun d hd => nameD_lay (h.2 d hd)
theorem rows_lay {rows : List (List PyData)} (h : RowsD rows) : (PyData.list (rows.map .list)).canLay0 = true ∧ (PyData.list (rows.map .list)).depth ≤ 3 := list_lay fun d hd => by
  obtain ⟨r, hr, rfl⟩ := List.mem_map.mp hd
  exact row_lay (h.2 r hr)
theorem rows_shaped {rows : List (List PyData)} (h : RowsD rows) : SeqAt.shaped (.list (rows.map .list)) = true := shaped_lay (rows_lay h) (by decide)
theorem eqv_nil (l : List PyData) : PyData.eqv (.list l) (.list []) = decide (l = []) := by
  cases l with
  | nil => simp [PyData.eqv, PyData.eqvAll]
  | cons a l => simp [PyData.eqv, PyData.eqvAll]
section
variable {K : PySem.W.Frag} {H : Hp} {Q : VK} {a b : Addr} {l : List PyData} {us : List V}
/-- xs == [], xs != [] -/
theorem s_eqN (h : Dq H (.ref a) (.list l)) (s : SeqAt.shaped (.list l) = true) (hb : H b = some (.lst [])) (q : Q (.bl (decide (l = []))) H) : rEqD K (.ref a) (.ref b) H Q :=
  ⟨.list l, .list [], h.dp, (Dq.lst hb .nil).dp, s, by decide +kernel, by rw [eqv_nil]; exact q⟩
theorem s_neN (h : Dq H (.ref a) (.list l)) (s : SeqAt.shaped (.list l) = true) (hb : H b = some (.lst [])) (q : Q (.bl (!decide (l = []))) H) : rNeD K (.ref a) (.ref b) H Q :=
  ⟨.list l, .list [], h.dp, (Dq.lst hb .nil).dp, s, by decide +kernel, by rw [eqv_nil]; exact q⟩
end
/-! ### cuts; the script; data of specs -/
theorem s_cut {t u : TS} {D : Ends} {σ : St} {H : Hp} (Pv : St → Hp → Prop) (h2 : ∀ σ H, Pv σ H → u D σ H) (h1 : ∀ N : St → Hp → Prop, (∀ σ H, Pv σ H → N σ H) → t { D with nx := N } σ H) : tSeq t u D σ H := h1 (u D) h2
def ptD (p : Pt) : PyData := .tuple [.str p.name, .int p.gap, .int p.rest]
def specD (g : Gd) : PyData := .tuple [.list (g.pots.map ptD), .int g.cans, .int g.week, .int g.closed]
/-- a spec in the heap -/
structure SpIn (H : Hp) (a l : Addr) (vs : List V) (g : Gd) : Prop where
  tup : H a = some (.tup [.ref l, .int g.cans, .int g.week, .int g.closed])
  lst : H l = some (.lst vs)
  each : DqAll H vs (g.pots.map ptD)
theorem SpIn.mono {H H' : Hp} (e : Ex H H') {a l : Addr} {vs : List V} {g : Gd} (h : SpIn H a l vs g) : SpIn H' a l vs g := ⟨e _ _ h.tup, e _ _ h.lst, h.each.mono e _⟩
theorem SpIn.len {H : Hp} {a l : Addr} {vs : List V} {g : Gd} (h : SpIn H a l vs g) : vs.length = g.pots.length := by rw [h.each.len, List.length_map]
theorem SpIn.pot {H : Hp} {a l : Addr} {vs : List V} {g : Gd} (h : SpIn H a l vs g) {k : Nat} {p : Pt} (hp : g.pots[k]? = some p) : ∃ t, vs[k]? = some (.ref t) ∧ H t = some (.tup [.str p.name, .int p.gap, .int p.rest]) := by
  obtain ⟨v, hv, hd⟩ := h.each.of_at (k := k) (d := ptD p) (by rw [List.getElem?_map, hp]; rfl)
  unfold ptD at hd
  cases hd with
  | tup ha hs =>
    cases hs with
    | cons h1 h2 =>
      cases h1
      cases h2 with
      | cons h3 h4 =>
        cases h3
        cases h4 with
        | cons h5 h6 =>
          cases h5
          cases h6
          exact ⟨_, hv, ha⟩
theorem s_nwG {H : Hp} {Q : VK} {xs : List V} (hl : xs.length ≤ 100000) (q : ∀ p H', H p = none → Ex H H' → H' p = some (.lst xs) → Q (.ref p) H') : nwL xs H Q := ⟨sz_of hl, fun p hp => q p _ hp (Ex.new hp) upd_same⟩
theorem s_nwTG {H : Hp} {Q : VK} {xs : List V} (hl : xs.length ≤ 100000) (q : ∀ p H', H p = none → Ex H H' → H' p = some (.tup xs) → Q (.ref p) H') : nwT xs H Q := ⟨sz_of hl, fun p hp => q p _ hp (Ex.new hp) upd_same⟩
/-! ### defs of an except suite -/
structure FxE (P : Program) (w : World) (K : PySem.W.Frag) (mg : Str → Option Value) (base : Heap) (k : Nat) (f : Addr) (ps : List Str) (sp : Addr × Obj → Sp) : Prop where
  ex : ∃ fd, FnE P w K mg base k f fd ps sp ∧ PySem.W.keepIn K (.ref f) = true ∧ Binds K fd ps []
theorem pe_callX {X : Cx} {k : Nat} {f : Addr} {ps : List Str} {sp : Addr × Obj → Sp} {x : Str} {q pos : Pos} {e : Expr} {es : List Expr} {t : TA} {p : Addr × Obj} (F : FxE X.prog X.w X.K X.mg X.base k f ps sp) (hr : L2H.RoomH k X.A) (hp : p ∈ X.pn)
    (hg : Gl X x) (hm : X.mg x = some (.ref f)) (ha : PA X (e :: es) t) (hdb : (x == ("__debug__" : Str)) = false := by decide)
    (he : starEach (e :: es) X.env = (false, eval e X.env) :: starEach es X.env := by rfl) (hpl : (backTo pos (starEach es X.env)).any (·.1) = false := by rfl) : PE X (.Call (.Name x q) (e :: es) [] pos) (tCall (sp p) [] E0 t) := by
  obtain ⟨fd, O, hk, hb⟩ := F.ex
  exact pe_callE O hr hp hg hm hk hb ha hdb he hpl
def xpR (K : PySem.W.Frag) (p : Addr × Obj) (f : Str) (x : V) (H : Hp) (Q : VK) : Prop := x = .ref p.1 ∧ ∃ (D dd : Addr) (fs : List (Str × V)) (v : V), XfC K D ∧ PySem.W.findIn K (.ref D) f = some none ∧ Zc (.ref D) (some dd) p.2 ∧
  (∃ vs, p.2.data = .fields vs) ∧ H dd = some (.xd fs) ∧ fs.lookup f = some v ∧ Q v H
theorem a_xp {K : PySem.W.Frag} {p : Addr × Obj} {f : Str} {te : TE} {σ : St} {H : Hp} {Q : VK} : tXP K p f te σ H Q = te σ H fun x H1 => xpR K p f x H1 Q := rfl
theorem IsExc.mono {K : PySem.W.Frag} {H H' : Hp} {p : Addr × Obj} {D : Addr} {d : Option Addr} (e : Ex H H') (h : IsExc K H p D d) : IsExc K H' p D d := ⟨h.cls, h.data, fun dd hd => let ⟨fs, q⟩ := h.own dd hd; ⟨fs, e _ _ q⟩⟩
theorem s_isP {K : PySem.W.Frag} {H : Hp} {Q : VK} {p : Addr × Obj} {D C : Addr} {d : Option Addr} {b : Bool} (c : ExcC K D) (h : IsExc K H p D d) (k : kitB2 K (.ref D) (.ref C) b = true) (q : Q (.bl b) H) : rIsP K p [.ref p.1, .ref C] H Q := ⟨.ref C, .ref C, b, D, d, rfl, .own C, c, h, kit2 k, q⟩
theorem s_isPV {K : PySem.W.Frag} {H : Hp} {Q : VK} {p : Addr × Obj} {D : Addr} {n : String} {d : Option Addr} {b : Bool} (c : ExcC K D) (h : IsExc K H p D d) (k : kitB2 K (.ref D) (.type n) b = true) (q : Q (.bl b) H) : rIsP K p [.ref p.1, .ty n] H Q := ⟨.ty n, .type n, b, D, d, rfl, .ty n, c, h, kit2 k, q⟩
section
variable {P : Program} {w : World} {K : PySem.W.Frag} {mg : Str → Option Value} {base : Heap} {CX : CXT} {N : List Str} {qual : Str} {scope : Scope} {f : Addr} {cdv : Value} {A : Around} {outer : List Env} {s : Shared} {H0 : Hp} {E : XK} {p : Addr × Obj}
theorem cxh_K : (L2H.cxH CX P w K mg base N qual scope f cdv A outer s H0 E p).K = K := rfl
end
theorem ixN_nat {n k : Nat} (h : k < n) : ixN n ((k : Nat) : Int) = some k := by
  unfold ixN
  rw [if_pos (by omega), if_pos (by omega), Int.toNat_natCast]
section
variable {K : PySem.W.Frag} {H : Hp} {Q : VK} {R : Hp → Prop} {p : Addr} {xs : List V} {k : Nat} {v : V}
theorem s_setL (h : H p = some (.lst xs)) (hk : k < xs.length) (q : R (upd H p (.lst (xs.set k v)))) : rSetL (.ref p) (.int (k : Nat)) v H R := ⟨p, xs, (k : Nat), k, rfl, rfl, h, ixN_nat hk, q⟩
theorem s_getL (h : H p = some (.lst xs)) (hv : xs[k]? = some v) (q : Q v H) : rGetL K (.ref p) (.int (k : Nat)) H Q := ⟨p, xs, (k : Nat), v, rfl, rfl, Int.natCast_nonneg _, SqL.of h, by rw [Int.toNat_natCast]; exact hv, q⟩
theorem s_rep {n : Nat} (h : H p = some (.lst [v])) (hn : n ≤ 100000) (q : ∀ r, H r = none → Q (.ref r) (upd H r (.lst (List.replicate n v)))) : rRep (.ref p) (.int (n : Nat)) H Q := by
  refine ⟨p, (n : Nat), [v], rfl, rfl, h, by omega, by omega, by rw [Int.toNat_natCast]; show 1 * n ≤ _; rw [Nat.one_mul]; exact sz_of hn, fun r hr => ?_⟩
  have e : (List.replicate (Int.toNat ((n : Nat) : Int)) [v]).flatten = List.replicate n v := by
    rw [Int.toNat_natCast]
    clear q hn h hr
    induction n with
    | zero => rfl
    | succ n ih => rw [List.replicate_succ, List.flatten_cons, ih, List.replicate_succ]; rfl
  rw [e]
  exact q r hr
end
theorem pe_imp {X : Cx} {e : Expr} {t t' : TE} (h : PE X e t) (k : ∀ σ H Q, t' σ H Q → t σ H Q) : PE X e t' := ⟨fun pins s σ H Q I w => h.run pins s σ H Q I (k σ H Q w)⟩
theorem pe_dfS {X : Cx} {k : Nat} {ps : List Str} {sp : Sp} {x : Str} {p pos : Pos} {e : Expr} {es : List Expr} {t : TA} {W : WX} (D : Df X.prog X.w X.K X.mg X.base (L2.CX X.prog X.w) k x ps [] sp) (hr : Room k X.A) (hg : Gl X x) (tk : Takes X W) (ha : PA X (e :: es) t)
    (hdb : (x == ("__debug__" : Str)) = false := by decide) (he : starEach (e :: es) X.env = (false, eval e X.env) :: starEach es X.env := by rfl) (hpl : (backTo pos (starEach es X.env)).any (·.1) = false := by rfl) :
    PE X (.Call (.Name x p) (e :: es) [] pos) (tCallS sp (WE W) t) := by
  obtain ⟨f, fd, ds, F, hm, hk, hd, hb⟩ := D.ex
  cases hd
  exact pe_callS F hr hg hm hk hb (fun σ => passAt tk σ) ha hdb he hpl
theorem roomH {k : Nat} {A : Around} (h : Room k A) (x : Option Value) : L2H.RoomH k (A.mark x) := ⟨h.dp, h.un⟩
end Tk

set_option maxHeartbeats 4000000
/-! Bits, pots' wants: the small defs. -/
namespace Tk
open PySem PySem.Spec PyProof.Rows L2 He Evl
local macro_rules | `(tactic| walk_at "e") => `(tactic| (try simp only [a_seq, a_var0, a_varS, a_c, a_asg, a_name, a_set0, a_setS, a_ret, a_retN, a_ifS, a_drop, a_next, a_op, a_un, a_I0, a_I, a_U, a_bT, a_test, a_B, a_and, a_or, a_not, a_andV, a_orV, a_notV, a_if, a_isN, a_notN, a_nil, a_cons, a_CB, a_lst, a_tup, a_dget, a_din, a_dnotin, a_dput, a_newK, a_revL, a_getN, a_putN, a_newN, a_forL, a_forT, a_forR, a_lcL, a_lcR, a_yes, a_w0, a_w1, cx_K, cx_P, cx_w, a_eqI, a_neI, a_eqS, a_neS, a_call, a_callS, a_clsFn, a_meth, a_make, a_fld, a_fldS, a_BM, a_BM0, a_sl, a_noP, a_part, a_intP, a_gTup, a_gNil, a_gCons, a_gSub, a_ipI, a_ipMul, a_aug, a_augS, a_chain, m_and, m_or, a_xp, cxh_K, a_veI, a_ost, a_mkK, a_nn, not_false_eq_true, not_true_eq_false, Option.map_some, Option.map_none, Option.isSome_some, Option.isSome_none, List.map_cons, List.map_nil, true_and, and_true, true_or, or_true, false_and, and_false, false_or, or_false, if_true, if_false, Bool.false_eq_true, decide_eq_true_eq, Bool.not_eq_true, Bool.not_true, Bool.not_false, decide_eq_false_iff_not, Bool.not_eq_eq_eq_not, reduceCtorEq, Bool.true_eq_false, List.cons_append, List.nil_append, List.append_nil]))
local macro_rules | `(tactic| walk_at "1") => `(tactic| ((try simp only [a_var0, a_varS, a_c, a_asg, a_name, a_set0, a_setS, a_ret, a_retN, a_ifS, a_drop, a_next, a_op, a_un, a_I0, a_I, a_U, a_bT, a_test, a_B, a_and, a_or, a_not, a_andV, a_orV, a_notV, a_if, a_isN, a_notN, a_nil, a_cons, a_CB, a_lst, a_tup, a_dget, a_din, a_dnotin, a_dput, a_newK, a_revL, a_getN, a_putN, a_newN, a_forL, a_forT, a_forR, a_lcL, a_lcR, a_yes, a_w0, a_w1, cx_K, cx_P, cx_w, a_eqI, a_neI, a_eqS, a_neS, a_call, a_callS, a_clsFn, a_meth, a_make, a_fld, a_fldS, a_BM, a_BM0, a_sl, a_noP, a_part, a_intP, a_gTup, a_gNil, a_gCons, a_gSub, a_ipI, a_ipMul, a_aug, a_augS, a_chain, m_and, m_or, a_xp, cxh_K, a_veI, a_ost, a_mkK, a_nn, not_false_eq_true, not_true_eq_false, Option.map_some, Option.map_none, Option.isSome_some, Option.isSome_none, List.map_cons, List.map_nil, true_and, and_true, true_or, or_true, false_and, and_false, false_or, or_false, if_true, if_false, Bool.false_eq_true, decide_eq_true_eq, Bool.not_eq_true, Bool.not_true, Bool.not_false, decide_eq_false_iff_not, Bool.not_eq_eq_eq_not, reduceCtorEq, Bool.true_eq_false, List.cons_append, List.nil_append, List.append_nil]); rw [a_seq]; (try simp only [a_var0, a_varS, a_c, a_asg, a_name, a_set0, a_setS, a_ret, a_retN, a_ifS, a_drop, a_next, a_op, a_un, a_I0, a_I, a_U, a_bT, a_test, a_B, a_and, a_or, a_not, a_andV, a_orV, a_notV, a_if, a_isN, a_notN, a_nil, a_cons, a_CB, a_lst, a_tup, a_dget, a_din, a_dnotin, a_dput, a_newK, a_revL, a_getN, a_putN, a_newN, a_forL, a_forT, a_forR, a_lcL, a_lcR, a_yes, a_w0, a_w1, cx_K, cx_P, cx_w, a_eqI, a_neI, a_eqS, a_neS, a_call, a_callS, a_clsFn, a_meth, a_make, a_fld, a_fldS, a_BM, a_BM0, a_sl, a_noP, a_part, a_intP, a_gTup, a_gNil, a_gCons, a_gSub, a_ipI, a_ipMul, a_aug, a_augS, a_chain, m_and, m_or, a_xp, cxh_K, a_veI, a_ost, a_mkK, a_nn, not_false_eq_true, not_true_eq_false, Option.map_some, Option.map_none, Option.isSome_some, Option.isSome_none, List.map_cons, List.map_nil, true_and, and_true, true_or, or_true, false_and, and_false, false_or, or_false, if_true, if_false, Bool.false_eq_true, decide_eq_true_eq, Bool.not_eq_true, Bool.not_true, Bool.not_false, decide_eq_false_iff_not, Bool.not_eq_eq_eq_not, reduceCtorEq, Bool.true_eq_false, List.cons_append, List.nil_append, List.append_nil])))
local macro_rules | `(tactic| walk_at "0") => `(tactic| (try simp only [a_var0, a_varS, a_c, a_asg, a_name, a_set0, a_setS, a_ret, a_retN, a_ifS, a_drop, a_next, a_op, a_un, a_I0, a_I, a_U, a_bT, a_test, a_B, a_and, a_or, a_not, a_andV, a_orV, a_notV, a_if, a_isN, a_notN, a_nil, a_cons, a_CB, a_lst, a_tup, a_dget, a_din, a_dnotin, a_dput, a_newK, a_revL, a_getN, a_putN, a_newN, a_forL, a_forT, a_forR, a_lcL, a_lcR, a_yes, a_w0, a_w1, cx_K, cx_P, cx_w, a_eqI, a_neI, a_eqS, a_neS, a_call, a_callS, a_clsFn, a_meth, a_make, a_fld, a_fldS, a_BM, a_BM0, a_sl, a_noP, a_part, a_intP, a_gTup, a_gNil, a_gCons, a_gSub, a_ipI, a_ipMul, a_aug, a_augS, a_chain, m_and, m_or, a_xp, cxh_K, a_veI, a_ost, a_mkK, a_nn, not_false_eq_true, not_true_eq_false, Option.map_some, Option.map_none, Option.isSome_some, Option.isSome_none, List.map_cons, List.map_nil, true_and, and_true, true_or, or_true, false_and, and_false, false_or, or_false, if_true, if_false, Bool.false_eq_true, decide_eq_true_eq, Bool.not_eq_true, Bool.not_true, Bool.not_false, decide_eq_false_iff_not, Bool.not_eq_eq_eq_not, reduceCtorEq, Bool.true_eq_false, List.cons_append, List.nil_append, List.append_nil]))
section
variable {P : Program} {w : World} {K : PySem.W.Frag} {mg : Str → Option Value} {base : Heap}
/-- bits_of(c): a new list -/
def spBits : Sp := fun vs H Q _ => ∃ c : Nat, vs = [.int c] ∧ c < 2 ^ 62 ∧ ∀ (p : Addr) (H' : Hp), H p = none → Ex H H' → H' p = some (.lst ((bitsL c).map fun (k : Nat) => V.int k)) → Q (.ref p) H'
theorem bitsRec_len : ∀ (f n p : Nat), (bitsRec f n p).length ≤ f
  | 0, _, _ => Nat.le_refl _
  | f + 1, n, p => by
    unfold bitsRec
    by_cases h : n = 0
    · rw [if_pos h]; exact Nat.zero_le _
    · rw [if_neg h, List.length_append]
      have := bitsRec_len f (n / 2) (p + 1)
      by_cases h1 : n % 2 = 1
      · rw [if_pos h1]; simp only [List.length_cons, List.length_nil]; omega
      · rw [if_neg h1]; simp only [List.length_nil]; omega
theorem sc_bits_of : FnScope ["number", "found", "place"] ["number"] (defScope s_bits_of) := ⟨rfl, rfl, rfl, by decide +kernel, rfl, by decide +kernel, by decide +kernel⟩
theorem st_bits_of (p0 : V) : start ["number", "found", "place"] [p0] = [some p0, none, none] := rfl
theorem fn_bits_of (T : Txt K mg) {fd : FuncData} (F : FunD K "bits_of" "bits_of" (defArgs s_bits_of) (defBody s_bits_of) (defScope s_bits_of) [] [] (ga K "bits_of") fd) : FnOk P w K mg base CX0 1 (ga K "bits_of") fd ["number"] spBits := by
  refine F.ok (CX := CX0) (k := 0) sc_bits_of (fun vs H Q E h => ?L) (fun cdv A outer s H vs Q E hr h => ?B)
  case L => first | (obtain ⟨_, rfl, _⟩ := h; rfl) | (obtain ⟨_, _, rfl, _⟩ := h; rfl) | (obtain ⟨_, _, _, rfl, _⟩ := h; rfl) | (obtain ⟨_, _, _, _, rfl, _⟩ := h; rfl) | (obtain ⟨_, _, _, _, _, rfl, _⟩ := h; rfl) | (obtain ⟨_, _, _, _, _, _, rfl, _⟩ := h; rfl) | (obtain ⟨_, _, _, _, _, _, _, rfl, _⟩ := h; rfl) | (obtain ⟨_, _, _, _, _, _, _, _, rfl, _⟩ := h; rfl) | (obtain ⟨_, _, _, _, _, _, _, _, _, rfl, _⟩ := h; rfl) | (obtain ⟨_, _, _, _, _, _, _, _, _, _, rfl, _⟩ := h; rfl) | (obtain ⟨_, _, _, _, _, _, _, _, _, _, _, rfl, _⟩ := h; rfl) | (obtain ⟨_, _, _, _, _, _, _, _, _, _, _, _, rfl, _⟩ := h; rfl) | (obtain ⟨_, _, _, _, _, _, _, _, _, _, _, _, _, rfl, _⟩ := h; rfl)
  case B =>
  refine ⟨_, PSs.nox ((pss_cons (ps_set (i := 1) sc_bits_of.nd rfl (Or.inl rfl) (pe_lst pa_nil))
      (pss_cons (ps_set (i := 2) sc_bits_of.nd rfl (Or.inl rfl) pe_int)
      (pss_cons (ps_while PassesOwn.never (pt_cmpR op_gt (pv 0) pe_int (nomark _))
      (pss_cons (ps_if (pt_cmpR op_eq (pe_op op_and (pv 0) pe_int) pe_int (nomark _)) (pss_one (ps_expr (pe_bm PySem.F.plainAttrs_list PySem.F.slot_list_append PySem.F.type_list_append mt_append (pv 1) (pa_cons (pv 2) pa_nil))))
      pss_nil)
      (pss_cons (ps_set (i := 0) sc_bits_of.nd rfl (Or.inl rfl) (pe_op op_shr (pv 0) pe_int))
      (pss_one (ps_aug (i := 2) sc_bits_of.nd rfl (Or.inl rfl) pe_int ip_add)))))
      (pss_one (ps_ret (pv 1))))))), ?_⟩
  obtain ⟨c, rfl, hc, k⟩ := h
  rw [st_bits_of]
  walk_at "e"
  refine s_nil fun F hF => ?_
  refine while_w (fun m σ H1 => ∃ (n p : Nat) (fs : List Nat), σ = [some (.int (n : Nat)), some (.ref F), some (.int (p : Nat))] ∧ m = n ∧ n < 2 ^ (62 - p) ∧ p ≤ 62 ∧ fs.length ≤ p ∧ H1 F = some (.lst (fs.map fun (k : Nat) => V.int k)) ∧ Ex H H1 ∧ fs ++ bitsRec n n p = bitsL c) c
    ⟨c, 0, [], rfl, rfl, hc, by decide, Nat.le_refl _, upd_same, Ex.new hF, rfl⟩ ?_
  rintro m σ H1 ⟨n, p, fs, rfl, rfl, hn, hp, hl, hH, e, eq⟩
  walk_at "e"
  by_cases h0 : (0 : Int) < ((m : Nat) : Int)
  · rw [if_pos h0]
    refine ⟨_, fun _ _ q => q, ?_⟩
    have eb : Builtin.bitAnd ((m : Nat) : Int) 1 = if m.testBit 0 = true then 1 else 0 := by
      have := int_bit m 0
      rwa [Int.pow_zero, Int.ediv_one] at this
    have es := bitsRec_step (n := m) (p := p) (by omega)
    have ed : ((m : Nat) : Int) / 2 ^ Int.toNat 1 = ((m / 2 : Nat) : Int) := by
      show ((m : Nat) : Int) / 2 ^ 1 = _
      omega
    have hp2 : p < 62 := by
      rcases Nat.lt_or_ge p 62 with z | z
      · exact z
      · have e0 : 62 - p = 0 := by omega
        rw [e0] at hn
        omega
    have hn2 : m / 2 < 2 ^ (62 - (p + 1)) := by
      have e0 : 62 - p = (62 - (p + 1)) + 1 := by omega
      rw [e0, Nat.pow_succ] at hn
      omega
    rw [ed]
    by_cases h1 : m % 2 = 1
    · rw [if_pos (by rw [eb, Nat.testBit_zero, decide_eq_true h1]; rfl)]
      rw [if_pos h1] at es
      refine s_app hH (by rw [List.length_map]; omega) ⟨by decide, m / 2, by omega, m / 2, p + 1, fs ++ [p], rfl, rfl, hn2, by omega, by simp; omega, ?_, e.mut hF, ?_⟩
      · rw [upd_same, List.map_append]
        rfl
      · rw [← eq, es, List.append_assoc]
    · rw [if_neg (by rw [eb, Nat.testBit_zero, decide_eq_false h1]; decide)]
      rw [if_neg h1, List.nil_append] at es
      exact ⟨by decide, m / 2, by omega, m / 2, p + 1, fs, rfl, rfl, hn2, by omega, by omega, hH, e, by rw [← es]; exact eq⟩
  · rw [if_neg h0]
    have e0 : m = 0 := by omega
    subst e0
    refine k F H1 hF e ?_
    rw [hH, ← eq]
    simp [bitsRec]
def spWhole : Sp := fun vs H Q _ => ∃ i : Int, vs = [.int i] ∧ Q (.bl true) H
theorem ok_bits_of (T : Txt K mg) : Df P w K mg base CX0 1 "bits_of" ["number"] [] spBits := let ⟨fd, F⟩ := T.d_bits_of; mk_df F (fn_bits_of T F) T.g_bits_of (F.bindsN fun _ _ _ _ _ _ us hl => match us, hl with | [_], _ => rfl)
theorem sc_is_whole : FnScope ["number"] ["number"] (defScope s_is_whole) := ⟨rfl, rfl, rfl, by decide +kernel, rfl, by decide +kernel, by decide +kernel⟩
theorem st_is_whole (p0 : V) : start ["number"] [p0] = [some p0] := rfl
theorem fn_is_whole (T : Txt K mg) {fd : FuncData} (F : FunD K "is_whole" "is_whole" (defArgs s_is_whole) (defBody s_is_whole) (defScope s_is_whole) [] [] (ga K "is_whole") fd) : FnOk P w K mg base CX0 1 (ga K "is_whole") fd ["number"] spWhole := by
  refine F.ok (CX := CX0) (k := 0) sc_is_whole (fun vs H Q E h => ?L) (fun cdv A outer s H vs Q E hr h => ?B)
  case L => first | (obtain ⟨_, rfl, _⟩ := h; rfl) | (obtain ⟨_, _, rfl, _⟩ := h; rfl) | (obtain ⟨_, _, _, rfl, _⟩ := h; rfl) | (obtain ⟨_, _, _, _, rfl, _⟩ := h; rfl) | (obtain ⟨_, _, _, _, _, rfl, _⟩ := h; rfl) | (obtain ⟨_, _, _, _, _, _, rfl, _⟩ := h; rfl) | (obtain ⟨_, _, _, _, _, _, _, rfl, _⟩ := h; rfl) | (obtain ⟨_, _, _, _, _, _, _, _, rfl, _⟩ := h; rfl) | (obtain ⟨_, _, _, _, _, _, _, _, _, rfl, _⟩ := h; rfl) | (obtain ⟨_, _, _, _, _, _, _, _, _, _, rfl, _⟩ := h; rfl) | (obtain ⟨_, _, _, _, _, _, _, _, _, _, _, rfl, _⟩ := h; rfl) | (obtain ⟨_, _, _, _, _, _, _, _, _, _, _, _, rfl, _⟩ := h; rfl) | (obtain ⟨_, _, _, _, _, _, _, _, _, _, _, _, _, rfl, _⟩ := h; rfl)
  case B =>
  refine ⟨_, PSs.nox ((pss_one (ps_ret (pe_and (pe_callB call_isi (by rfl) T.f_isinstance (by decide +kernel) (pa_cons (pv 0) (pa_cons (pe_bltn (v := .ty "int") (u := .type "int") (by rfl) T.f_int (by decide +kernel) rfl) pa_nil))) (pe_one (pe_not (pe_callB call_isi (by rfl) T.f_isinstance (by decide +kernel) (pa_cons (pv 0) (pa_cons (pe_bltn (v := .ty "bool") (u := .type "bool") (by rfl) T.f_bool (by decide +kernel) rfl) pa_nil))))))))), ?_⟩
  obtain ⟨i, rfl, k⟩ := h
  rw [st_is_whole]
  walk_at "e"
  refine s_isiI (b := true) (by decide +kernel) (bT_of ?_)
  walk_at "e"
  refine s_isiI (b := false) (by decide +kernel) (bT_of ?_)
  exact k
theorem ok_is_whole (T : Txt K mg) : Df P w K mg base CX0 1 "is_whole" ["number"] [] spWhole := let ⟨fd, F⟩ := T.d_is_whole; mk_df F (fn_is_whole T F) T.g_is_whole (F.bindsN fun _ _ _ _ _ _ us hl => match us, hl with | [_], _ => rfl)
def spWithin : Sp := fun vs H Q _ => ∃ i lo hi : Int, vs = [.int i, .int lo, .int hi] ∧ Q (.bl (decide (lo ≤ i ∧ i ≤ hi))) H
theorem sc_within : FnScope ["number", "low", "high"] ["number", "low", "high"] (defScope s_within) := ⟨rfl, rfl, rfl, by decide +kernel, rfl, by decide +kernel, by decide +kernel⟩
theorem st_within (p0 p1 p2 : V) : start ["number", "low", "high"] [p0, p1, p2] = [some p0, some p1, some p2] := rfl
theorem fn_within (T : Txt K mg) {fd : FuncData} (F : FunD K "within" "within" (defArgs s_within) (defBody s_within) (defScope s_within) [] [] (ga K "within") fd) : FnOk P w K mg base CX0 2 (ga K "within") fd ["number", "low", "high"] spWithin := by
  refine F.ok (CX := CX0) (k := 1) sc_within (fun vs H Q E h => ?L) (fun cdv A outer s H vs Q E hr h => ?B)
  case L => first | (obtain ⟨_, rfl, _⟩ := h; rfl) | (obtain ⟨_, _, rfl, _⟩ := h; rfl) | (obtain ⟨_, _, _, rfl, _⟩ := h; rfl) | (obtain ⟨_, _, _, _, rfl, _⟩ := h; rfl) | (obtain ⟨_, _, _, _, _, rfl, _⟩ := h; rfl) | (obtain ⟨_, _, _, _, _, _, rfl, _⟩ := h; rfl) | (obtain ⟨_, _, _, _, _, _, _, rfl, _⟩ := h; rfl) | (obtain ⟨_, _, _, _, _, _, _, _, rfl, _⟩ := h; rfl) | (obtain ⟨_, _, _, _, _, _, _, _, _, rfl, _⟩ := h; rfl) | (obtain ⟨_, _, _, _, _, _, _, _, _, _, rfl, _⟩ := h; rfl) | (obtain ⟨_, _, _, _, _, _, _, _, _, _, _, rfl, _⟩ := h; rfl) | (obtain ⟨_, _, _, _, _, _, _, _, _, _, _, _, rfl, _⟩ := h; rfl) | (obtain ⟨_, _, _, _, _, _, _, _, _, _, _, _, _, rfl, _⟩ := h; rfl)
  case B =>
  refine ⟨_, PSs.nox ((pss_one (ps_ret (pe_and (pe_df (ok_is_whole T) (hr.mono (by decide)) rfl pass0 (pa_cons (pv 0) pa_nil)) (pe_one (pe_chain op_le op_le (pv 1) (pv 0) (pv 2))))))), ?_⟩
  obtain ⟨i, lo, hi, rfl, k⟩ := h
  rw [st_within]
  walk_at "e"
  refine ⟨i, rfl, bT_of ?_⟩
  walk_at "e"
  by_cases h1 : lo ≤ i
  · have e : decide (lo ≤ i ∧ i ≤ hi) = decide (i ≤ hi) := decide_eq_decide.mpr ⟨fun q => q.2, fun q => ⟨h1, q⟩⟩
    rw [if_pos h1, ← e]
    exact k
  · have e : decide (lo ≤ i ∧ i ≤ hi) = false := decide_eq_false fun q => h1 q.1
    rw [if_neg h1, ← e]
    exact k
theorem ok_within (T : Txt K mg) : Df P w K mg base CX0 2 "within" ["number", "low", "high"] [] spWithin := let ⟨fd, F⟩ := T.d_within; mk_df F (fn_within T F) T.g_within (F.bindsN fun _ _ _ _ _ _ us hl => match us, hl with | [_, _, _], _ => rfl)
def spName : Sp := fun vs H Q _ => ∃ n : Str, vs = [.str n] ∧ n ∈ five ∧ Q (.bl true) H
theorem five_len : ∀ n ∈ five, 1 ≤ n.length ∧ n.length ≤ 12 ∧ Txt.stripChars n "abcdefghijklmnopqrstuvwxyz" = "" := by decide +kernel
theorem sc_is_name : FnScope ["name"] ["name"] (defScope s_is_name) := ⟨rfl, rfl, rfl, by decide +kernel, rfl, by decide +kernel, by decide +kernel⟩
theorem st_is_name (p0 : V) : start ["name"] [p0] = [some p0] := rfl
theorem fn_is_name (T : Txt K mg) {fd : FuncData} (F : FunD K "is_name" "is_name" (defArgs s_is_name) (defBody s_is_name) (defScope s_is_name) [] [] (ga K "is_name") fd) : FnOk P w K mg base CX0 1 (ga K "is_name") fd ["name"] spName := by
  refine F.ok (CX := CX0) (k := 0) sc_is_name (fun vs H Q E h => ?L) (fun cdv A outer s H vs Q E hr h => ?B)
  case L => first | (obtain ⟨_, rfl, _⟩ := h; rfl) | (obtain ⟨_, _, rfl, _⟩ := h; rfl) | (obtain ⟨_, _, _, rfl, _⟩ := h; rfl) | (obtain ⟨_, _, _, _, rfl, _⟩ := h; rfl) | (obtain ⟨_, _, _, _, _, rfl, _⟩ := h; rfl) | (obtain ⟨_, _, _, _, _, _, rfl, _⟩ := h; rfl) | (obtain ⟨_, _, _, _, _, _, _, rfl, _⟩ := h; rfl) | (obtain ⟨_, _, _, _, _, _, _, _, rfl, _⟩ := h; rfl) | (obtain ⟨_, _, _, _, _, _, _, _, _, rfl, _⟩ := h; rfl) | (obtain ⟨_, _, _, _, _, _, _, _, _, _, rfl, _⟩ := h; rfl) | (obtain ⟨_, _, _, _, _, _, _, _, _, _, _, rfl, _⟩ := h; rfl) | (obtain ⟨_, _, _, _, _, _, _, _, _, _, _, _, rfl, _⟩ := h; rfl) | (obtain ⟨_, _, _, _, _, _, _, _, _, _, _, _, _, rfl, _⟩ := h; rfl)
  case B =>
  refine ⟨_, PSs.nox ((pss_one (ps_ret (pe_and (pe_callB call_isi (by rfl) T.f_isinstance (by decide +kernel) (pa_cons (pv 0) (pa_cons (pe_bltn (v := .ty "str") (u := .type "str") (by rfl) T.f_str (by decide +kernel) rfl) pa_nil))) (pe_and (pe_chain op_le op_le pe_int (pe_callB call_lenX (by rfl) T.f_len (by decide +kernel) (pa_cons (pv 0) pa_nil)) pe_int) (pe_one (pe_cmpR op_eq (pe_bm PySem.F.plainAttrs_str PySem.F.slot_str_strip PySem.F.type_str_strip mt_stripChars (pv 0) (pa_cons (pe_gS rfl T.i_LETTERS) pa_nil)) pe_str (nomark _)))))))), ?_⟩
  obtain ⟨n, rfl, hn, k⟩ := h
  obtain ⟨h1, h2, h3⟩ := five_len n hn
  rw [st_is_name]
  walk_at "e"
  refine s_isiS (b := true) (by decide +kernel) (bT_of ?_)
  walk_at "e"
  refine s_lenX (by omega) ?_
  walk_at "e"
  rw [if_pos (show (1 : Int) ≤ ((n.length : Nat) : Int) ∧ ((n.length : Nat) : Int) ≤ 12 by omega)]
  refine ⟨rfl, n, _, rfl, rfl, sz_of (by omega), ?_⟩
  rw [h3]
  walk_at "e"
  exact k
theorem ok_is_name (T : Txt K mg) : Df P w K mg base CX0 1 "is_name" ["name"] [] spName := let ⟨fd, F⟩ := T.d_is_name; mk_df F (fn_is_name T F) T.g_is_name (F.bindsN fun _ _ _ _ _ _ us hl => match us, hl with | [_], _ => rfl)
/-- self.name = name; self.gap = gap, self a new pot (a cactus calls it, too) -/
def spPotInit (K : PySem.W.Frag) : Sp := fun vs H Q _ => ∃ (p C dx : Addr) (n : Str) (g : Int), vs = [.ref p, .str n, .int g] ∧ H p = some (.ins C dx []) ∧ (C = ga K "Pot" ∨ C = ga K "Cactus") ∧ n ∈ five ∧ (1 ≤ g ∧ g ≤ 60) ∧
  ∀ H' : Hp, H' p = some (.ins C dx [("name", .str n), ("gap", .int g)]) → (∀ b, b ≠ p → H' b = H b) → Q .non H'
theorem sc_Pot_init : FnScope ["self", "name", "gap"] ["self", "name", "gap"] (defScope s_Pot_init) := ⟨rfl, rfl, rfl, by decide +kernel, rfl, by decide +kernel, by decide +kernel⟩
theorem st_Pot_init (p0 p1 p2 : V) : start ["self", "name", "gap"] [p0, p1, p2] = [some p0, some p1, some p2] := rfl
theorem fn_Pot_init (T : Txt K mg) {fd : FuncData} (F : FunD K "__init__" "Pot.__init__" (defArgs s_Pot_init) (defBody s_Pot_init) (defScope s_Pot_init) [] [] (ma K (ga K "Pot") "__init__") fd) : FnOk P w K mg base CX0 3 (ma K (ga K "Pot") "__init__") fd ["self", "name", "gap"] (spPotInit K) := by
  refine F.ok (CX := CX0) (k := 2) sc_Pot_init (fun vs H Q E h => ?L) (fun cdv A outer s H vs Q E hr h => ?B)
  case L => first | (obtain ⟨_, rfl, _⟩ := h; rfl) | (obtain ⟨_, _, rfl, _⟩ := h; rfl) | (obtain ⟨_, _, _, rfl, _⟩ := h; rfl) | (obtain ⟨_, _, _, _, rfl, _⟩ := h; rfl) | (obtain ⟨_, _, _, _, _, rfl, _⟩ := h; rfl) | (obtain ⟨_, _, _, _, _, _, rfl, _⟩ := h; rfl) | (obtain ⟨_, _, _, _, _, _, _, rfl, _⟩ := h; rfl) | (obtain ⟨_, _, _, _, _, _, _, _, rfl, _⟩ := h; rfl) | (obtain ⟨_, _, _, _, _, _, _, _, _, rfl, _⟩ := h; rfl) | (obtain ⟨_, _, _, _, _, _, _, _, _, _, rfl, _⟩ := h; rfl) | (obtain ⟨_, _, _, _, _, _, _, _, _, _, _, rfl, _⟩ := h; rfl) | (obtain ⟨_, _, _, _, _, _, _, _, _, _, _, _, rfl, _⟩ := h; rfl) | (obtain ⟨_, _, _, _, _, _, _, _, _, _, _, _, _, rfl, _⟩ := h; rfl)
  case B =>
  refine ⟨_, PSs.nox ((pss_cons (ps_if (PW.pt (pw_or (pt_not (pt_val (pe_df (ok_is_name T) (hr.mono (by decide)) rfl pass0 (pa_cons (pv 1) pa_nil)))) (pw_or1 (pt_not (pt_val (pe_df (ok_within T) (hr.mono (by decide)) rfl pass0 (pa_cons (pv 2) (pa_cons pe_int (pa_cons (pe_gI rfl T.i_LONGEST) pa_nil))))))))) (pss_one ps_never)
      pss_nil)
      (pss_cons (ps_fld (pv 0) (pv 1) rfl)
      (pss_one (ps_fld (pv 0) (pv 2) rfl))))), ?_⟩
  obtain ⟨p, C, dx, n, g, rfl, hp, hC, hn, hg, k⟩ := h
  rw [st_Pot_init]
  walk_at "e"
  refine ⟨n, rfl, hn, bT_of ?_⟩
  walk_at "e"
  refine ⟨g, 1, 60, rfl, bT_of ?_⟩
  rw [decide_eq_true (show (1 : Int) ≤ g ∧ g ≤ 60 from hg)]
  walk_at "e"
  have cl : Cls K C := hC.elim (fun z => by rw [z]; exact T.c_Pot) fun z => by rw [z]; exact T.c_Cactus
  have n1 : NoAttr K C "name" := hC.elim (fun z => by rw [z]; exact T.n_Pot_name) fun z => by rw [z]; exact T.n_Cactus_name
  have n2 : NoAttr K C "gap" := hC.elim (fun z => by rw [z]; exact T.n_Pot_gap) fun z => by rw [z]; exact T.n_Cactus_gap
  refine s_fldS hp cl n1 (by decide) (s_fldS upd_same cl n2 (by show 1 < 1000; decide) ?_)
  refine k _ ?_ fun b hb => by rw [upd_ne hb, upd_ne hb]
  rw [upd_same]
  have q : putF "gap" (V.int g) (putF "name" (V.str n) []) = ([("name", V.str n), ("gap", V.int g)] : List (Str × V)) := by
    show (if ("name" : Str) = "gap" then _ else (("name" : Str), V.str n) :: putF "gap" (V.int g) []) = _
    rw [if_neg (by decide +kernel)]
    rfl
  rw [q]
def spPotMay (K : PySem.W.Frag) : Sp := fun vs H Q _ => ∃ (v : V) (s : Int), vs = [v, .int s] ∧ Q (.bl true) H
theorem ok_Pot_init (T : Txt K mg) : Ck P w K mg base CX0 3 (ga K "Pot") "Pot" ["self", "name", "gap"] [] (spPotInit K) := let ⟨fd, F⟩ := T.d_Pot_init; mk_ck (fn_Pot_init T F) T.k_Pot T.g_Pot (F.bindsN fun _ _ _ _ _ _ us hl => match us, hl with | [_, _, _], _ => rfl)
theorem fx_Pot_init (T : Txt K mg) : Fx P w K mg base CX0 3 (ma K (ga K "Pot") "__init__") ["self", "name", "gap"] (spPotInit K) := let ⟨fd, F⟩ := T.d_Pot_init; ⟨fd, fn_Pot_init T F, F.kp, F.bindsN fun _ _ _ _ _ _ us hl => match us, hl with | [_, _, _], _ => rfl⟩
theorem sc_Pot_may : FnScope ["self", "since"] ["self", "since"] (defScope s_Pot_may) := ⟨rfl, rfl, rfl, by decide +kernel, rfl, by decide +kernel, by decide +kernel⟩
theorem st_Pot_may (p0 p1 : V) : start ["self", "since"] [p0, p1] = [some p0, some p1] := rfl
theorem fn_Pot_may (T : Txt K mg) {fd : FuncData} (F : FunD K "may" "Pot.may" (defArgs s_Pot_may) (defBody s_Pot_may) (defScope s_Pot_may) [] [] (ma K (ga K "Pot") "may") fd) : FnOk P w K mg base CX0 1 (ma K (ga K "Pot") "may") fd ["self", "since"] (spPotMay K) := by
  refine F.ok (CX := CX0) (k := 0) sc_Pot_may (fun vs H Q E h => ?L) (fun cdv A outer s H vs Q E hr h => ?B)
  case L => first | (obtain ⟨_, rfl, _⟩ := h; rfl) | (obtain ⟨_, _, rfl, _⟩ := h; rfl) | (obtain ⟨_, _, _, rfl, _⟩ := h; rfl) | (obtain ⟨_, _, _, _, rfl, _⟩ := h; rfl) | (obtain ⟨_, _, _, _, _, rfl, _⟩ := h; rfl) | (obtain ⟨_, _, _, _, _, _, rfl, _⟩ := h; rfl) | (obtain ⟨_, _, _, _, _, _, _, rfl, _⟩ := h; rfl) | (obtain ⟨_, _, _, _, _, _, _, _, rfl, _⟩ := h; rfl) | (obtain ⟨_, _, _, _, _, _, _, _, _, rfl, _⟩ := h; rfl) | (obtain ⟨_, _, _, _, _, _, _, _, _, _, rfl, _⟩ := h; rfl) | (obtain ⟨_, _, _, _, _, _, _, _, _, _, _, rfl, _⟩ := h; rfl) | (obtain ⟨_, _, _, _, _, _, _, _, _, _, _, _, rfl, _⟩ := h; rfl) | (obtain ⟨_, _, _, _, _, _, _, _, _, _, _, _, _, rfl, _⟩ := h; rfl)
  case B =>
  refine ⟨_, PSs.nox ((pss_one (ps_ret pe_bl))), ?_⟩
  obtain ⟨v, s, rfl, k⟩ := h
  rw [st_Pot_may]
  walk_at "e"
  exact k
theorem ok_Pot_may (T : Txt K mg) : Mt P w K mg base CX0 1 (ga K "Pot") "may" ["self", "since"] (spPotMay K) := let ⟨fd, F⟩ := T.d_Pot_may; mk_mt (fn_Pot_may T F) T.c_Pot T.m_Pot_may (F.bindsN fun _ _ _ _ _ _ us hl => match us, hl with | [_, _], _ => rfl)
def spCacInit (K : PySem.W.Frag) : Sp := fun vs H Q _ => ∃ (p dx : Addr) (n : Str) (g r : Int), vs = [.ref p, .str n, .int g, .int r] ∧ H p = some (.ins (ga K "Cactus") dx []) ∧ n ∈ five ∧ (1 ≤ g ∧ g ≤ 60) ∧ (0 ≤ r ∧ r < g) ∧
  ∀ H' : Hp, H' p = some (.ins (ga K "Cactus") dx [("name", .str n), ("gap", .int g), ("rest", .int r)]) → (∀ b, b ≠ p → H' b = H b) → Q .non H'
theorem sc_Cactus_init : FnScope ["self", "name", "gap", "rest"] ["self", "name", "gap", "rest"] (defScope s_Cactus_init) := ⟨rfl, rfl, rfl, by decide +kernel, rfl, by decide +kernel, by decide +kernel⟩
theorem st_Cactus_init (p0 p1 p2 p3 : V) : start ["self", "name", "gap", "rest"] [p0, p1, p2, p3] = [some p0, some p1, some p2, some p3] := rfl
theorem fn_Cactus_init (T : Txt K mg) {fd : FuncData} (F : FunD K "__init__" "Cactus.__init__" (defArgs s_Cactus_init) (defBody s_Cactus_init) (defScope s_Cactus_init) [] [] (ma K (ga K "Cactus") "__init__") fd) : FnOk P w K mg base CX0 4 (ma K (ga K "Cactus") "__init__") fd ["self", "name", "gap", "rest"] (spCacInit K) := by
  refine F.ok (CX := CX0) (k := 3) sc_Cactus_init (fun vs H Q E h => ?L) (fun cdv A outer s H vs Q E hr h => ?B)
  case L => first | (obtain ⟨_, rfl, _⟩ := h; rfl) | (obtain ⟨_, _, rfl, _⟩ := h; rfl) | (obtain ⟨_, _, _, rfl, _⟩ := h; rfl) | (obtain ⟨_, _, _, _, rfl, _⟩ := h; rfl) | (obtain ⟨_, _, _, _, _, rfl, _⟩ := h; rfl) | (obtain ⟨_, _, _, _, _, _, rfl, _⟩ := h; rfl) | (obtain ⟨_, _, _, _, _, _, _, rfl, _⟩ := h; rfl) | (obtain ⟨_, _, _, _, _, _, _, _, rfl, _⟩ := h; rfl) | (obtain ⟨_, _, _, _, _, _, _, _, _, rfl, _⟩ := h; rfl) | (obtain ⟨_, _, _, _, _, _, _, _, _, _, rfl, _⟩ := h; rfl) | (obtain ⟨_, _, _, _, _, _, _, _, _, _, _, rfl, _⟩ := h; rfl) | (obtain ⟨_, _, _, _, _, _, _, _, _, _, _, _, rfl, _⟩ := h; rfl) | (obtain ⟨_, _, _, _, _, _, _, _, _, _, _, _, _, rfl, _⟩ := h; rfl)
  case B =>
  refine ⟨_, PSs.nox ((pss_cons (ps_expr (pe_clsfx (fx_Pot_init T) (hr.mono (by decide)) rfl T.g_Pot T.cvPot pass0 (pa_cons (pv 0) (pa_cons (pv 1) (pa_cons (pv 2) pa_nil)))))
      (pss_cons (ps_if (pt_not (pt_val (pe_df (ok_within T) (hr.mono (by decide)) rfl pass0 (pa_cons (pv 3) (pa_cons pe_int (pa_cons (pe_op op_sub (pv 2) pe_int) pa_nil)))))) (pss_one ps_never)
      pss_nil)
      (pss_one (ps_fld (pv 0) (pv 3) rfl))))), ?_⟩
  obtain ⟨p, dx, n, g, r, rfl, hp, hn, hg, hr', k⟩ := h
  rw [st_Cactus_init]
  walk_at "e"
  refine ⟨p, _, dx, n, g, rfl, hp, .inr rfl, hn, hg, fun H' h1 h2 => ?_⟩
  walk_at "e"
  refine ⟨r, 0, g - 1, rfl, bT_of ?_⟩
  rw [decide_eq_true (show (0 : Int) ≤ r ∧ r ≤ g - 1 from ⟨hr'.1, by omega⟩)]
  walk_at "e"
  refine s_fldS h1 T.c_Cactus T.n_Cactus_rest (by show 2 < 1000; decide) ?_
  refine k _ ?_ fun b hb => by rw [upd_ne hb, h2 b hb]
  rw [upd_same]
  have q : putF "rest" (V.int r) [("name", V.str n), ("gap", V.int g)] = ([("name", V.str n), ("gap", V.int g), ("rest", V.int r)] : List (Str × V)) := by
    show (if ("name" : Str) = "rest" then _ else (("name" : Str), V.str n) :: (if ("gap" : Str) = "rest" then _ else (("gap" : Str), V.int g) :: putF "rest" (V.int r) [])) = _
    rw [if_neg (by decide +kernel), if_neg (by decide +kernel)]
    rfl
  rw [q]
def spCacMay (K : PySem.W.Frag) : Sp := fun vs H Q _ => ∃ (a dx : Addr) (n : Str) (g r s : Int), vs = [.ref a, .int s] ∧ H a = some (.ins (ga K "Cactus") dx [("name", .str n), ("gap", .int g), ("rest", .int r)]) ∧ Q (.bl (decide (r ≤ s))) H
theorem ok_Cactus_init (T : Txt K mg) : Ck P w K mg base CX0 4 (ga K "Cactus") "Cactus" ["self", "name", "gap", "rest"] [] (spCacInit K) := let ⟨fd, F⟩ := T.d_Cactus_init; mk_ck (fn_Cactus_init T F) T.k_Cactus T.g_Cactus (F.bindsN fun _ _ _ _ _ _ us hl => match us, hl with | [_, _, _, _], _ => rfl)
theorem sc_Cactus_may : FnScope ["self", "since"] ["self", "since"] (defScope s_Cactus_may) := ⟨rfl, rfl, rfl, by decide +kernel, rfl, by decide +kernel, by decide +kernel⟩
theorem st_Cactus_may (p0 p1 : V) : start ["self", "since"] [p0, p1] = [some p0, some p1] := rfl
theorem fn_Cactus_may (T : Txt K mg) {fd : FuncData} (F : FunD K "may" "Cactus.may" (defArgs s_Cactus_may) (defBody s_Cactus_may) (defScope s_Cactus_may) [] [] (ma K (ga K "Cactus") "may") fd) : FnOk P w K mg base CX0 1 (ma K (ga K "Cactus") "may") fd ["self", "since"] (spCacMay K) := by
  refine F.ok (CX := CX0) (k := 0) sc_Cactus_may (fun vs H Q E h => ?L) (fun cdv A outer s H vs Q E hr h => ?B)
  case L => first | (obtain ⟨_, rfl, _⟩ := h; rfl) | (obtain ⟨_, _, rfl, _⟩ := h; rfl) | (obtain ⟨_, _, _, rfl, _⟩ := h; rfl) | (obtain ⟨_, _, _, _, rfl, _⟩ := h; rfl) | (obtain ⟨_, _, _, _, _, rfl, _⟩ := h; rfl) | (obtain ⟨_, _, _, _, _, _, rfl, _⟩ := h; rfl) | (obtain ⟨_, _, _, _, _, _, _, rfl, _⟩ := h; rfl) | (obtain ⟨_, _, _, _, _, _, _, _, rfl, _⟩ := h; rfl) | (obtain ⟨_, _, _, _, _, _, _, _, _, rfl, _⟩ := h; rfl) | (obtain ⟨_, _, _, _, _, _, _, _, _, _, rfl, _⟩ := h; rfl) | (obtain ⟨_, _, _, _, _, _, _, _, _, _, _, rfl, _⟩ := h; rfl) | (obtain ⟨_, _, _, _, _, _, _, _, _, _, _, _, rfl, _⟩ := h; rfl) | (obtain ⟨_, _, _, _, _, _, _, _, _, _, _, _, _, rfl, _⟩ := h; rfl)
  case B =>
  refine ⟨_, PSs.nox ((pss_one (ps_ret (pe_cmpR op_ge (pv 1) (pe_fld (pv 0) rfl) (nomark _))))), ?_⟩
  obtain ⟨a, dx, n, g, r, s, rfl, ha, k⟩ := h
  rw [st_Cactus_may]
  walk_at "e"
  refine s_fld ha T.c_Cactus T.n_Cactus_rest (by rw [lkS (by decide +kernel), lkS (by decide +kernel)]; exact lk0) ?_
  walk_at "e"
  exact k
theorem ok_Cactus_may (T : Txt K mg) : Mt P w K mg base CX0 1 (ga K "Cactus") "may" ["self", "since"] (spCacMay K) := let ⟨fd, F⟩ := T.d_Cactus_may; mk_mt (fn_Cactus_may T F) T.c_Cactus T.m_Cactus_may (F.bindsN fun _ _ _ _ _ _ us hl => match us, hl with | [_, _], _ => rfl)
end
end Tk

set_option maxHeartbeats 4000000
/-! Gardens: size, making, numbers, states, places. -/
namespace Tk
open PySem PySem.Spec PyProof.Rows L2 He Evl
local macro_rules | `(tactic| walk_at "e") => `(tactic| (try simp only [a_seq, a_var0, a_varS, a_c, a_asg, a_name, a_set0, a_setS, a_ret, a_retN, a_ifS, a_drop, a_next, a_op, a_un, a_I0, a_I, a_U, a_bT, a_test, a_B, a_and, a_or, a_not, a_andV, a_orV, a_notV, a_if, a_isN, a_notN, a_nil, a_cons, a_CB, a_lst, a_tup, a_dget, a_din, a_dnotin, a_dput, a_newK, a_revL, a_getN, a_putN, a_newN, a_forL, a_forT, a_forR, a_lcL, a_lcR, a_yes, a_w0, a_w1, cx_K, cx_P, cx_w, a_eqI, a_neI, a_eqS, a_neS, a_call, a_callS, a_clsFn, a_meth, a_make, a_fld, a_fldS, a_BM, a_BM0, a_sl, a_noP, a_part, a_intP, a_gTup, a_gNil, a_gCons, a_gSub, a_ipI, a_ipMul, a_aug, a_augS, a_chain, m_and, m_or, a_xp, cxh_K, a_veI, a_ost, a_mkK, a_nn, not_false_eq_true, not_true_eq_false, Option.map_some, Option.map_none, Option.isSome_some, Option.isSome_none, List.map_cons, List.map_nil, true_and, and_true, true_or, or_true, false_and, and_false, false_or, or_false, if_true, if_false, Bool.false_eq_true, decide_eq_true_eq, Bool.not_eq_true, Bool.not_true, Bool.not_false, decide_eq_false_iff_not, Bool.not_eq_eq_eq_not, reduceCtorEq, Bool.true_eq_false, List.cons_append, List.nil_append, List.append_nil]))
local macro_rules | `(tactic| walk_at "1") => `(tactic| ((try simp only [a_var0, a_varS, a_c, a_asg, a_name, a_set0, a_setS, a_ret, a_retN, a_ifS, a_drop, a_next, a_op, a_un, a_I0, a_I, a_U, a_bT, a_test, a_B, a_and, a_or, a_not, a_andV, a_orV, a_notV, a_if, a_isN, a_notN, a_nil, a_cons, a_CB, a_lst, a_tup, a_dget, a_din, a_dnotin, a_dput, a_newK, a_revL, a_getN, a_putN, a_newN, a_forL, a_forT, a_forR, a_lcL, a_lcR, a_yes, a_w0, a_w1, cx_K, cx_P, cx_w, a_eqI, a_neI, a_eqS, a_neS, a_call, a_callS, a_clsFn, a_meth, a_make, a_fld, a_fldS, a_BM, a_BM0, a_sl, a_noP, a_part, a_intP, a_gTup, a_gNil, a_gCons, a_gSub, a_ipI, a_ipMul, a_aug, a_augS, a_chain, m_and, m_or, a_xp, cxh_K, a_veI, a_ost, a_mkK, a_nn, not_false_eq_true, not_true_eq_false, Option.map_some, Option.map_none, Option.isSome_some, Option.isSome_none, List.map_cons, List.map_nil, true_and, and_true, true_or, or_true, false_and, and_false, false_or, or_false, if_true, if_false, Bool.false_eq_true, decide_eq_true_eq, Bool.not_eq_true, Bool.not_true, Bool.not_false, decide_eq_false_iff_not, Bool.not_eq_eq_eq_not, reduceCtorEq, Bool.true_eq_false, List.cons_append, List.nil_append, List.append_nil]); rw [a_seq]; (try simp only [a_var0, a_varS, a_c, a_asg, a_name, a_set0, a_setS, a_ret, a_retN, a_ifS, a_drop, a_next, a_op, a_un, a_I0, a_I, a_U, a_bT, a_test, a_B, a_and, a_or, a_not, a_andV, a_orV, a_notV, a_if, a_isN, a_notN, a_nil, a_cons, a_CB, a_lst, a_tup, a_dget, a_din, a_dnotin, a_dput, a_newK, a_revL, a_getN, a_putN, a_newN, a_forL, a_forT, a_forR, a_lcL, a_lcR, a_yes, a_w0, a_w1, cx_K, cx_P, cx_w, a_eqI, a_neI, a_eqS, a_neS, a_call, a_callS, a_clsFn, a_meth, a_make, a_fld, a_fldS, a_BM, a_BM0, a_sl, a_noP, a_part, a_intP, a_gTup, a_gNil, a_gCons, a_gSub, a_ipI, a_ipMul, a_aug, a_augS, a_chain, m_and, m_or, a_xp, cxh_K, a_veI, a_ost, a_mkK, a_nn, not_false_eq_true, not_true_eq_false, Option.map_some, Option.map_none, Option.isSome_some, Option.isSome_none, List.map_cons, List.map_nil, true_and, and_true, true_or, or_true, false_and, and_false, false_or, or_false, if_true, if_false, Bool.false_eq_true, decide_eq_true_eq, Bool.not_eq_true, Bool.not_true, Bool.not_false, decide_eq_false_iff_not, Bool.not_eq_eq_eq_not, reduceCtorEq, Bool.true_eq_false, List.cons_append, List.nil_append, List.append_nil])))
local macro_rules | `(tactic| walk_at "0") => `(tactic| (try simp only [a_var0, a_varS, a_c, a_asg, a_name, a_set0, a_setS, a_ret, a_retN, a_ifS, a_drop, a_next, a_op, a_un, a_I0, a_I, a_U, a_bT, a_test, a_B, a_and, a_or, a_not, a_andV, a_orV, a_notV, a_if, a_isN, a_notN, a_nil, a_cons, a_CB, a_lst, a_tup, a_dget, a_din, a_dnotin, a_dput, a_newK, a_revL, a_getN, a_putN, a_newN, a_forL, a_forT, a_forR, a_lcL, a_lcR, a_yes, a_w0, a_w1, cx_K, cx_P, cx_w, a_eqI, a_neI, a_eqS, a_neS, a_call, a_callS, a_clsFn, a_meth, a_make, a_fld, a_fldS, a_BM, a_BM0, a_sl, a_noP, a_part, a_intP, a_gTup, a_gNil, a_gCons, a_gSub, a_ipI, a_ipMul, a_aug, a_augS, a_chain, m_and, m_or, a_xp, cxh_K, a_veI, a_ost, a_mkK, a_nn, not_false_eq_true, not_true_eq_false, Option.map_some, Option.map_none, Option.isSome_some, Option.isSome_none, List.map_cons, List.map_nil, true_and, and_true, true_or, or_true, false_and, and_false, false_or, or_false, if_true, if_false, Bool.false_eq_true, decide_eq_true_eq, Bool.not_eq_true, Bool.not_true, Bool.not_false, decide_eq_false_iff_not, Bool.not_eq_eq_eq_not, reduceCtorEq, Bool.true_eq_false, List.cons_append, List.nil_append, List.append_nil]))
section
variable {P : Program} {w : World} {K : PySem.W.Frag} {mg : Str → Option Value} {base : Heap}
theorem take_succ {α : Type} : ∀ {l : List α} {i : Nat} {x : α}, l[i]? = some x → l.take (i + 1) = l.take i ++ [x]
  | [], i, x, h => by simp at h
  | a :: l, 0, x, h => by
    cases (show some a = some x from h)
    rfl
  | a :: l, i + 1, x, h => by
    show a :: l.take (i + 1) = a :: l.take i ++ [x]
    rw [take_succ (l := l) (i := i) (x := x) h]
    rfl
def spSize (K : PySem.W.Frag) : Sp := fun vs H Q _ => ∃ (a l d : Addr) (ps : List V) (g : Gd), vs = [.ref a] ∧ GdIn K H a l d ps g ∧ (∀ p ∈ g.pots, 1 ≤ p.gap ∧ p.gap ≤ 9) ∧ Q (.int (sizeI g)) H
theorem sc_Garden_size : FnScope ["self", "found", "pot"] ["self"] (defScope s_Garden_size) := ⟨rfl, rfl, rfl, by decide +kernel, rfl, by decide +kernel, by decide +kernel⟩
theorem st_Garden_size (p0 : V) : start ["self", "found", "pot"] [p0] = [some p0, none, none] := rfl
theorem fn_Garden_size (T : Txt K mg) {fd : FuncData} (F : FunD K "size" "Garden.size" (defArgs s_Garden_size) (defBody s_Garden_size) (defScope s_Garden_size) [] [] (ma K (ga K "Garden") "size") fd) : FnOk P w K mg base CX0 1 (ma K (ga K "Garden") "size") fd ["self"] (spSize K) := by
  refine F.ok (CX := CX0) (k := 0) sc_Garden_size (fun vs H Q E h => ?L) (fun cdv A outer s H vs Q E hr h => ?B)
  case L => first | (obtain ⟨_, rfl, _⟩ := h; rfl) | (obtain ⟨_, _, rfl, _⟩ := h; rfl) | (obtain ⟨_, _, _, rfl, _⟩ := h; rfl) | (obtain ⟨_, _, _, _, rfl, _⟩ := h; rfl) | (obtain ⟨_, _, _, _, _, rfl, _⟩ := h; rfl) | (obtain ⟨_, _, _, _, _, _, rfl, _⟩ := h; rfl) | (obtain ⟨_, _, _, _, _, _, _, rfl, _⟩ := h; rfl) | (obtain ⟨_, _, _, _, _, _, _, _, rfl, _⟩ := h; rfl) | (obtain ⟨_, _, _, _, _, _, _, _, _, rfl, _⟩ := h; rfl) | (obtain ⟨_, _, _, _, _, _, _, _, _, _, rfl, _⟩ := h; rfl) | (obtain ⟨_, _, _, _, _, _, _, _, _, _, _, rfl, _⟩ := h; rfl) | (obtain ⟨_, _, _, _, _, _, _, _, _, _, _, _, rfl, _⟩ := h; rfl) | (obtain ⟨_, _, _, _, _, _, _, _, _, _, _, _, _, rfl, _⟩ := h; rfl)
  case B =>
  refine ⟨_, PSs.nox ((pss_cons (ps_set (i := 1) sc_Garden_size.nd rfl (Or.inl rfl) (pe_fld (pv 0) rfl))
      (pss_cons (ps_for PassesOwn.never rfl (pi_list (pe_fld (pv 0) rfl)) (pg_name (i := 2) sc_Garden_size.nd rfl (Or.inl rfl))
      (pss_one (ps_aug (i := 1) sc_Garden_size.nd rfl (Or.inl rfl) (pe_fld (pv 2) rfl) ip_mul)))
      (pss_one (ps_ret (pv 1)))))), ?_⟩
  obtain ⟨a, l, d, ps, g, rfl, hG, hgap, k⟩ := h
  rw [st_Garden_size]
  walk_at "e"
  refine g_week T hG (Ex.refl _) ?_
  walk_at "e"
  refine g_pots T hG (Ex.refl _) ?_
  refine s_forL hG.pots (fun i σ H1 => ∃ v, σ = [some (.ref a), some (.int ((g.pots.take i).foldl (fun b p => b * p.gap) g.week)), v] ∧ H1 = H) ⟨none, rfl, rfl⟩ (fun i σ H1 _ ⟨_, _, e⟩ => by rw [e]; exact hG.pots) ?_ ?_
  · rintro N i x σ H1 hx ⟨v, rfl, rfl⟩ hN
    obtain ⟨p, hp, hP⟩ := pair_of hG.each hx
    walk_at "e"
    refine p_gap T hP (Ex.refl _) ?_
    walk_at "e"
    have := hgap p (List.mem_of_getElem? hp)
    refine ⟨.inr ⟨by omega, by omega⟩, hN _ _ ⟨some x, ?_, rfl⟩⟩
    rw [take_succ hp, List.foldl_append]
    rfl
  · rintro σ H1 ⟨v, rfl, rfl⟩
    walk_at "e"
    rw [hG.len, List.take_length]
    exact k
theorem ok_Garden_size (T : Txt K mg) : Mt P w K mg base CX0 1 (ga K "Garden") "size" ["self"] (spSize K) := let ⟨fd, F⟩ := T.d_Garden_size; mk_mt (fn_Garden_size T F) T.c_Garden T.m_Garden_size (F.bindsN fun _ _ _ _ _ _ us hl => match us, hl with | [_], _ => rfl)
theorem numL_app : ∀ {ps : List Pt} {xs : List Int} {p : Pt} {x b : Int}, ps.length = xs.length → numL (ps ++ [p]) (xs ++ [x]) b = numL ps xs b * p.gap + x
  | [], [], _, _, _, _ => rfl
  | q :: ps, y :: xs, p, x, b, h => by
    show numL (ps ++ [p]) (xs ++ [x]) (b * q.gap + y) = numL ps xs (b * q.gap + y) * p.gap + x
    exact numL_app (by simpa using h)
  | [], _ :: _, _, _, _, h => by cases h
  | _ :: _, [], _, _, _, h => by cases h
def spNumber (K : PySem.W.Frag) : Sp := fun vs H Q _ => ∃ (a l d : Addr) (ps : List V) (g : Gd) (v : V) (st : Stt), vs = [.ref a, v] ∧ GdIn K H a l d ps g ∧ g.Ok ∧ StA H v st ∧ StOk g st ∧ Q (.int (numI g st)) H
theorem sc_Garden_number : FnScope ["self", "state", "found", "k"] ["self", "state"] (defScope s_Garden_number) := ⟨rfl, rfl, rfl, by decide +kernel, rfl, by decide +kernel, by decide +kernel⟩
theorem st_Garden_number (p0 p1 : V) : start ["self", "state", "found", "k"] [p0, p1] = [some p0, some p1, none, none] := rfl
theorem fn_Garden_number (T : Txt K mg) {fd : FuncData} (F : FunD K "number" "Garden.number" (defArgs s_Garden_number) (defBody s_Garden_number) (defScope s_Garden_number) [] [] (ma K (ga K "Garden") "number") fd) : FnOk P w K mg base CX0 3 (ma K (ga K "Garden") "number") fd ["self", "state"] (spNumber K) := by
  refine F.ok (CX := CX0) (k := 2) sc_Garden_number (fun vs H Q E h => ?L) (fun cdv A outer s H vs Q E hr h => ?B)
  case L => first | (obtain ⟨_, rfl, _⟩ := h; rfl) | (obtain ⟨_, _, rfl, _⟩ := h; rfl) | (obtain ⟨_, _, _, rfl, _⟩ := h; rfl) | (obtain ⟨_, _, _, _, rfl, _⟩ := h; rfl) | (obtain ⟨_, _, _, _, _, rfl, _⟩ := h; rfl) | (obtain ⟨_, _, _, _, _, _, rfl, _⟩ := h; rfl) | (obtain ⟨_, _, _, _, _, _, _, rfl, _⟩ := h; rfl) | (obtain ⟨_, _, _, _, _, _, _, _, rfl, _⟩ := h; rfl) | (obtain ⟨_, _, _, _, _, _, _, _, _, rfl, _⟩ := h; rfl) | (obtain ⟨_, _, _, _, _, _, _, _, _, _, rfl, _⟩ := h; rfl) | (obtain ⟨_, _, _, _, _, _, _, _, _, _, _, rfl, _⟩ := h; rfl) | (obtain ⟨_, _, _, _, _, _, _, _, _, _, _, _, rfl, _⟩ := h; rfl) | (obtain ⟨_, _, _, _, _, _, _, _, _, _, _, _, _, rfl, _⟩ := h; rfl)
  case B =>
  refine ⟨_, PSs.nox ((pss_cons (ps_if (PW.pt (pw_or (pt_not (pt_val (pe_callB call_isi (by rfl) T.f_isinstance (by decide +kernel) (pa_cons (pv 1) (pa_cons (pe_bltn (v := .ty "tuple") (u := .type "tuple") (by rfl) T.f_tuple (by decide +kernel) rfl) pa_nil))))) (pw_or (pt_cmpR op_ne (pe_callB call_lenQ (by rfl) T.f_len (by decide +kernel) (pa_cons (pv 1) pa_nil)) pe_int (nomark _)) (pw_or1 (pt_not (pt_val (pe_df (ok_within T) (hr.mono (by decide)) rfl pass0 (pa_cons (pe_ix ix_tup (pv 1) pe_int (fun _ _ => rfl)) (pa_cons pe_int (pa_cons (pe_op op_sub (pe_fld (pv 0) rfl) pe_int) pa_nil)))))))))) (pss_one ps_never)
      pss_nil)
      (pss_cons (ps_if (PW.pt (pw_or (pt_not (pt_val (pe_callB call_isi (by rfl) T.f_isinstance (by decide +kernel) (pa_cons (pe_ix ix_tup (pv 1) pe_int (fun _ _ => rfl)) (pa_cons (pe_bltn (v := .ty "tuple") (u := .type "tuple") (by rfl) T.f_tuple (by decide +kernel) rfl) pa_nil))))) (pw_or1 (pt_cmpR op_ne (pe_callB call_lenQ (by rfl) T.f_len (by decide +kernel) (pa_cons (pe_ix ix_tup (pv 1) pe_int (fun _ _ => rfl)) pa_nil)) (pe_callB call_lenQ (by rfl) T.f_len (by decide +kernel) (pa_cons (pe_fld (pv 0) rfl) pa_nil)) (nomark _))))) (pss_one ps_never)
      pss_nil)
      (pss_cons (ps_set (i := 2) sc_Garden_number.nd rfl (Or.inl rfl) (pe_ix ix_tup (pv 1) pe_int (fun _ _ => rfl)))
      (pss_cons (ps_for PassesOwn.never rfl (pi_range1 rfl T.f_range (pa_cons (pe_callB call_lenQ (by rfl) T.f_len (by decide +kernel) (pa_cons (pe_fld (pv 0) rfl) pa_nil)) pa_nil)) (pg_name (i := 3) sc_Garden_number.nd rfl (Or.inl rfl))
      (pss_cons (ps_if (pt_not (pt_val (pe_df (ok_within T) (hr.mono (by decide)) rfl pass0 (pa_cons (pe_ix ix_tup (pe_ix ix_tup (pv 1) pe_int (fun _ _ => rfl)) (pv 3) (fun _ _ => rfl)) (pa_cons pe_int (pa_cons (pe_op op_sub (pe_fld (pe_ix ix_list (pe_fld (pv 0) rfl) (pv 3) (fun _ _ => rfl)) rfl) pe_int) pa_nil)))))) (pss_one ps_never)
      pss_nil)
      (pss_one (ps_set (i := 2) sc_Garden_number.nd rfl (Or.inl rfl) (pe_op op_add (pe_op op_mul (pv 2) (pe_fld (pe_ix ix_list (pe_fld (pv 0) rfl) (pv 3) (fun _ _ => rfl)) rfl)) (pe_ix ix_tup (pe_ix ix_tup (pv 1) pe_int (fun _ _ => rfl)) (pv 3) (fun _ _ => rfl)))))))
      (pss_one (ps_ret (pv 2)))))))), ?_⟩
  obtain ⟨a, l, d, ps, g, v, st, rfl, hG, ok, ⟨s1, s2, rfl, h1, h2⟩, hs, k⟩ := h
  rw [st_Garden_number]
  walk_at "e"
  have e1 : atI [V.int st.1, V.ref s2] 1 = some (V.ref s2) := rfl
  have e0 : atI [V.int st.1, V.ref s2] 0 = some (V.int st.1) := rfl
  refine s_isiT h1 (b := true) (by decide +kernel) (bT_of ?_)
  walk_at "e"
  refine s_lenT h1 ?_
  walk_at "e"
  rw [if_neg (show ¬ ¬ (((([V.int st.1, V.ref s2] : List V).length : Nat) : Int) = 2) from fun q => q rfl)]
  refine s_ixT h1 e0 (g_week T hG (Ex.refl _) ?_)
  walk_at "e"
  refine ⟨st.1, 0, g.week - 1, rfl, bT_of ?_⟩
  rw [decide_eq_true (show (0 : Int) ≤ st.1 ∧ st.1 ≤ g.week - 1 from ⟨hs.1, by have := hs.2.1; omega⟩)]
  walk_at "e"
  refine s_ixT h1 e1 (s_isiT h2 (b := true) (by decide +kernel) (bT_of ?_))
  walk_at "e"
  refine s_ixT h1 e1 (s_lenT h2 (g_pots T hG (Ex.refl _) (s_lenL hG.pots ?_)))
  walk_at "e"
  have hlen : st.2.length = g.pots.length := hs.2.2.len
  rw [if_neg (by rw [List.length_map, hlen, hG.len]; simp)]
  refine s_ixT h1 e0 ?_
  walk_at "e"
  refine g_pots T hG (Ex.refl _) (s_lenL hG.pots ?_)
  have hn3 := ok.n3
  refine s_forR (by rw [hG.len]; omega) (fun i σ H1 => ∃ v, σ = [some (.ref a), some (.ref s1), some (.int (numL (g.pots.take i) (st.2.take i) st.1)), v] ∧ H1 = H) ⟨none, by simp [numL], rfl⟩ ?_ ?_
  · rintro N i σ H1 hi ⟨v, rfl, rfl⟩ hN
    rw [hG.len] at hi
    obtain ⟨p, hp⟩ : ∃ p, g.pots[i]? = some p := ⟨_, List.getElem?_eq_getElem hi⟩
    obtain ⟨x, hx, x0, x1⟩ := hs.2.2.at_ hp
    have hx' : atI (st.2.map V.int) ((i : Nat) : Int) = some (.int x) := at_nat (by rw [List.getElem?_map, hx]; rfl)
    walk_at "e"
    refine s_ixT h1 e1 (s_ixT h2 hx' (g_pots T hG (Ex.refl _) (g_pot hG (Ex.refl _) hp fun w hP => p_gap T hP (Ex.refl _) ?_)))
    walk_at "e"
    refine ⟨x, 0, p.gap - 1, rfl, bT_of ?_⟩
    rw [decide_eq_true (show (0 : Int) ≤ x ∧ x ≤ p.gap - 1 from ⟨x0, by omega⟩)]
    walk_at "e"
    refine g_pots T hG (Ex.refl _) (g_pot hG (Ex.refl _) hp fun w hP => p_gap T hP (Ex.refl _) ?_)
    have gp := ok.gap p (List.mem_of_getElem? hp)
    walk_at "e"
    refine ⟨.inr ⟨by omega, by omega⟩, s_ixT h1 e1 (s_ixT h2 hx' ?_)⟩
    walk_at "e"
    refine hN _ _ ⟨some (.int (i : Nat)), ?_, rfl⟩
    rw [take_succ hp, take_succ hx, numL_app (by rw [List.length_take, List.length_take, hlen])]
  · rintro σ H1 ⟨v, rfl, rfl⟩
    walk_at "e"
    rw [hG.len, List.take_length, ← hlen, List.take_length]
    exact k
theorem ok_Garden_number (T : Txt K mg) : Mt P w K mg base CX0 3 (ga K "Garden") "number" ["self", "state"] (spNumber K) := let ⟨fd, F⟩ := T.d_Garden_number; mk_mt (fn_Garden_number T F) T.c_Garden T.m_Garden_number (F.bindsN fun _ _ _ _ _ _ us hl => match us, hl with | [_, _], _ => rfl)
/-- state(n): a state of the garden -/
theorem pair_app {R : V → Pt → Prop} : ∀ {vs us : List V} {ps qs : List Pt}, Paired R vs ps → Paired R us qs → Paired R (vs ++ us) (ps ++ qs)
  | _, _, _, _, .nil, g => g
  | _, _, _, _, .cons a t, g => .cons a (pair_app t g)
theorem pair_rev {R : V → Pt → Prop} : ∀ {vs : List V} {ps : List Pt}, Paired R vs ps → Paired R vs.reverse ps.reverse
  | _, _, .nil => .nil
  | _, _, .cons a t => by
    rw [List.reverse_cons, List.reverse_cons]
    exact pair_app (pair_rev t) (.cons a .nil)
def spState (K : PySem.W.Frag) : Sp := fun vs H Q _ => ∃ (a l d : Addr) (ps : List V) (g : Gd) (n : Int), vs = [.ref a, .int n] ∧ GdIn K H a l d ps g ∧ g.Ok ∧ (0 ≤ n ∧ n < sizeI g) ∧ ∀ (v : V) (st : Stt) (H' : Hp), StA H' v st → StOk g st → Ex H H' → Q v H'
theorem sc_Garden_state : FnScope ["self", "number", "since", "pot", "rest"] ["self", "number"] (defScope s_Garden_state) := ⟨rfl, rfl, rfl, by decide +kernel, rfl, by decide +kernel, by decide +kernel⟩
theorem st_Garden_state (p0 p1 : V) : start ["self", "number", "since", "pot", "rest"] [p0, p1] = [some p0, some p1, none, none, none] := rfl
theorem fn_Garden_state (T : Txt K mg) {fd : FuncData} (F : FunD K "state" "Garden.state" (defArgs s_Garden_state) (defBody s_Garden_state) (defScope s_Garden_state) [] [] (ma K (ga K "Garden") "state") fd) : FnOk P w K mg base CX0 3 (ma K (ga K "Garden") "state") fd ["self", "number"] (spState K) := by
  refine F.ok (CX := CX0) (k := 2) sc_Garden_state (fun vs H Q E h => ?L) (fun cdv A outer s H vs Q E hr h => ?B)
  case L => first | (obtain ⟨_, rfl, _⟩ := h; rfl) | (obtain ⟨_, _, rfl, _⟩ := h; rfl) | (obtain ⟨_, _, _, rfl, _⟩ := h; rfl) | (obtain ⟨_, _, _, _, rfl, _⟩ := h; rfl) | (obtain ⟨_, _, _, _, _, rfl, _⟩ := h; rfl) | (obtain ⟨_, _, _, _, _, _, rfl, _⟩ := h; rfl) | (obtain ⟨_, _, _, _, _, _, _, rfl, _⟩ := h; rfl) | (obtain ⟨_, _, _, _, _, _, _, _, rfl, _⟩ := h; rfl) | (obtain ⟨_, _, _, _, _, _, _, _, _, rfl, _⟩ := h; rfl) | (obtain ⟨_, _, _, _, _, _, _, _, _, _, rfl, _⟩ := h; rfl) | (obtain ⟨_, _, _, _, _, _, _, _, _, _, _, rfl, _⟩ := h; rfl) | (obtain ⟨_, _, _, _, _, _, _, _, _, _, _, _, rfl, _⟩ := h; rfl) | (obtain ⟨_, _, _, _, _, _, _, _, _, _, _, _, _, rfl, _⟩ := h; rfl)
  case B =>
  refine ⟨_, PSs.nox ((pss_cons (ps_if (pt_not (pt_val (pe_df (ok_within T) (hr.mono (by decide)) rfl pass0 (pa_cons (pv 1) (pa_cons pe_int (pa_cons (pe_op op_sub (pe_mt0 (pv 0) (ok_Garden_size T) (hr.mono (by decide)) pass0) pe_int) pa_nil)))))) (pss_one ps_never)
      pss_nil)
      (pss_cons (ps_set (i := 2) sc_Garden_state.nd rfl (Or.inl rfl) (pe_lst pa_nil))
      (pss_cons (ps_for PassesOwn.never rfl (pi_list (pe_revL (pe_fld (pv 0) rfl))) (pg_name (i := 3) sc_Garden_state.nd rfl (Or.inl rfl))
      (pss_cons (ps_asg (pe_callB call_divm (by rfl) T.f_divmod (by decide +kernel) (pa_cons (pv 1) (pa_cons (pe_fld (pv 3) rfl) pa_nil))) (pg_tup rfl (pgs_cons (pg_name (i := 1) sc_Garden_state.nd rfl (Or.inl rfl)) (pgs_cons (pg_name (i := 4) sc_Garden_state.nd rfl (Or.inl rfl)) pgs_nil))))
      (pss_one (ps_expr (pe_bm PySem.F.plainAttrs_list PySem.F.slot_list_append PySem.F.type_list_append mt_append (pv 2) (pa_cons (pv 4) pa_nil))))))
      (pss_one (ps_ret (pe_tup (pa_cons (pv 1) (pa_cons (pe_callTy call_tupO (by rfl) T.f_tuple (by decide +kernel) (pa_cons (pe_revL (pv 2)) pa_nil)) pa_nil))))))))), ?_⟩
  obtain ⟨a, l, d, ps, g, n, rfl, hG, ok, hn, k⟩ := h
  rw [st_Garden_state]
  walk_at "e"
  refine g_rcv hG (Ex.refl _) (by decide +kernel) (by decide +kernel) (by decide +kernel) (by decide +kernel) (by decide +kernel) ?_
  refine ⟨a, l, d, ps, g, rfl, hG, ok.gap, ?_⟩
  walk_at "e"
  refine ⟨n, 0, sizeI g - 1, rfl, bT_of ?_⟩
  rw [decide_eq_true (show (0 : Int) ≤ n ∧ n ≤ sizeI g - 1 from ⟨hn.1, by omega⟩)]
  walk_at "e"
  refine s_nil fun F hF => ?_
  walk_at "e"
  have e1 : Ex H (upd H F (.lst [])) := Ex.new hF
  refine g_pots T hG e1 ?_
  refine s_rev (e1 _ _ hG.pots) fun R hR => ?_
  have nFR : R ≠ F := fun q => by rw [q, upd_same] at hR; cases hR
  generalize hHB : upd (upd H F (.lst [])) R (.lst ps.reverse) = HB
  have hGB : Ex H (del HB F) := ex_into (by rw [← hHB]; exact e1.trans (Ex.new hR)) hF
  have hRB : del HB F R = some (.lst ps.reverse) := by rw [del_ne nFR, ← hHB, upd_same]
  have hFB : HB F = some (.lst []) := by rw [← hHB, upd_ne (Ne.symm nFR), upd_same]
  have hpr : Paired (PotAt K H) ps.reverse g.pots.reverse := pair_rev hG.each
  refine s_forL (xs := ps.reverse) (by rw [← hHB]; exact upd_same) (fun i σ H1 => ∃ (pre post : List Pt) (acc : List Int) (nn : Int) (v w : Option V), σ = [some (.ref a), some (.int nn), some (.ref F), v, w] ∧ g.pots = pre ++ post ∧ post.length = i ∧ SinceOk post acc.reverse ∧ 0 ≤ nn ∧ nn < pre.foldl (fun b p => b * p.gap) g.week ∧
      H1 F = some (.lst (acc.map V.int)) ∧ Ex (del HB F) H1) ⟨g.pots, [], [], n, none, none, rfl, by simp, rfl, trivial, hn.1, hn.2, hFB, ex_del⟩ (fun i σ H1 _ ⟨_, _, _, _, _, _, _, _, _, _, _, _, _, e⟩ => e _ _ hRB) ?_ ?_
  · rintro N i x σ H1 hx ⟨pre, post, acc, nn, v, w, rfl, hpp, hpl, hso, n0, n1, hH, e⟩ hN
    obtain ⟨p, hp, hP⟩ := pair_of hpr hx
    have hpre : ∃ pre', pre = pre' ++ [p] := by
      rw [hpp, List.reverse_append] at hp
      rw [List.getElem?_append_right (by rw [List.length_reverse, hpl]; exact Nat.le_refl _), List.length_reverse, hpl, Nat.sub_self] at hp
      cases hq : pre.reverse with
      | nil => rw [hq] at hp; cases hp
      | cons z zs =>
        rw [hq] at hp
        cases (show some z = some p from hp)
        exact ⟨zs.reverse, by have := congrArg List.reverse hq; simpa using this⟩
    obtain ⟨pre', rfl⟩ := hpre
    have gp := ok.gap p (by rw [hpp]; simp)
    rw [List.foldl_append] at n1
    have n1 : nn < (pre'.foldl (fun b p => b * p.gap) g.week) * p.gap := n1
    walk_at "e"
    refine p_gap T hP (hGB.trans e) ?_
    refine s_divm ⟨by omega, by omega⟩ fun t ht => ?_
    refine s_tupG upd_same rfl ?_
    walk_at "e"
    have nFt : F ≠ t := ne_new hH ht
    refine s_app (by rw [upd_ne nFt]; exact hH) ?_ ?_
    · have := hso.len
      rw [List.length_reverse] at this
      have h3 := ok.n3
      rw [hpp] at h3
      simp at h3
      rw [List.length_map]
      omega
    · refine hN _ _ ⟨pre', p :: post, acc ++ [nn % p.gap], nn / p.gap, some x, some (.int (nn % p.gap)), rfl, by rw [hpp]; simp, by simp [hpl], ?_, Int.ediv_nonneg n0 (by omega), Int.ediv_lt_of_lt_mul (by omega) n1, ?_, ?_⟩
      · rw [List.reverse_append]
        exact ⟨⟨Int.emod_nonneg _ (by omega), Int.emod_lt_of_pos _ (by omega)⟩, hso⟩
      · rw [upd_same, List.map_append]
        rfl
      · exact (ex_upd e ht).mut del_same
  · rintro σ H1 ⟨pre, post, acc, nn, v, w, rfl, hpp, hpl, hso, n0, n1, hH, e⟩
    have hl : pre = [] := by
      have h1 := congrArg List.length hpp
      rw [List.length_append, hpl, List.length_reverse, hG.len] at h1
      exact List.eq_nil_of_length_eq_zero (by omega)
    subst hl
    walk_at "e"
    refine s_rev hH fun r1 hr1 => ?_
    refine s_tupL upd_same fun r2 hr2 => ?_
    walk_at "e"
    refine s_nwT (by show 2 ≤ 100000; decide) fun r3 hr3 => ?_
    refine k _ (nn, acc.reverse) _ ⟨r3, r2, rfl, upd_same, ?_⟩ ⟨n0, n1, by rw [hpp]; exact hso⟩ ?_
    · rw [upd_ne (ne_new upd_same hr3), upd_same, List.map_reverse]
    · exact ex_upd (ex_upd (ex_upd (hGB.trans e) hr1) hr2) hr3
theorem ok_Garden_state (T : Txt K mg) : Mt P w K mg base CX0 3 (ga K "Garden") "state" ["self", "number"] (spState K) := let ⟨fd, F⟩ := T.d_Garden_state; mk_mt (fn_Garden_state T F) T.c_Garden T.m_Garden_state (F.bindsN fun _ _ _ _ _ _ us hl => match us, hl with | [_, _], _ => rfl)
/-- place(name) -/
def spPlace (K : PySem.W.Frag) : Sp := fun vs H Q E => ∃ (a l d : Addr) (ps : List V) (g : Gd) (v : V) (x : PyData), vs = [.ref a, v] ∧ GdIn K H a l d ps g ∧ g.Ok ∧ Dq H v x ∧ NameD x ∧
  (∀ i, placeOf g x = some i → Q (.int (i : Nat)) H) ∧ (placeOf g x = none → E (.ref (ga K "NoPot")) none H)
theorem sc_Garden_place : FnScope ["self", "name"] ["self", "name"] (defScope s_Garden_place) := ⟨rfl, rfl, rfl, by decide +kernel, rfl, by decide +kernel, by decide +kernel⟩
theorem st_Garden_place (p0 p1 : V) : start ["self", "name"] [p0, p1] = [some p0, some p1] := rfl
theorem fn_Garden_place (T : Txt K mg) {fd : FuncData} (F : FunD K "place" "Garden.place" (defArgs s_Garden_place) (defBody s_Garden_place) (defScope s_Garden_place) [] [] (ma K (ga K "Garden") "place") fd) : FnOk P w K mg base (L2.CX P w) 1 (ma K (ga K "Garden") "place") fd ["self", "name"] (spPlace K) := by
  refine F.ok (CX := (L2.CX P w)) (k := 0) sc_Garden_place (fun vs H Q E h => ?L) (fun cdv A outer s H vs Q E hr h => ?B)
  case L => first | (obtain ⟨_, rfl, _⟩ := h; rfl) | (obtain ⟨_, _, rfl, _⟩ := h; rfl) | (obtain ⟨_, _, _, rfl, _⟩ := h; rfl) | (obtain ⟨_, _, _, _, rfl, _⟩ := h; rfl) | (obtain ⟨_, _, _, _, _, rfl, _⟩ := h; rfl) | (obtain ⟨_, _, _, _, _, _, rfl, _⟩ := h; rfl) | (obtain ⟨_, _, _, _, _, _, _, rfl, _⟩ := h; rfl) | (obtain ⟨_, _, _, _, _, _, _, _, rfl, _⟩ := h; rfl) | (obtain ⟨_, _, _, _, _, _, _, _, _, rfl, _⟩ := h; rfl) | (obtain ⟨_, _, _, _, _, _, _, _, _, _, rfl, _⟩ := h; rfl) | (obtain ⟨_, _, _, _, _, _, _, _, _, _, _, rfl, _⟩ := h; rfl) | (obtain ⟨_, _, _, _, _, _, _, _, _, _, _, _, rfl, _⟩ := h; rfl) | (obtain ⟨_, _, _, _, _, _, _, _, _, _, _, _, _, rfl, _⟩ := h; rfl)
  case B =>
  refine ⟨_, ((pss_cons (ps_if (PW.pt (pw_or (pt_not (pt_val (pe_callB call_isi (by rfl) T.f_isinstance (by decide +kernel) (pa_cons (pv 1) (pa_cons (pe_bltn (v := .ty "str") (u := .type "str") (by rfl) T.f_str (by decide +kernel) rfl) pa_nil))))) (pw_or1 (pt_cmp (pc_dnotin (hu_1 hr) (pv 1) (pe_fld (pv 0) rfl)))))) (pss_one (ps_raise rfl (takes_of rfl rfl rfl rfl) (pmk_own PySem.F.excBase_ValueError T.x_NoPot.1 T.g_NoPot T.x_NoPot.2.1 (raises_own T.x_NoPot.2.2.1 T.x_NoPot.2.2.2) rfl)))
      pss_nil)
      (pss_one (ps_ret (pe_dget (hu_1 hr) (pe_fld (pv 0) rfl) (pv 1) (fun _ _ => rfl)))))), ?_⟩
  obtain ⟨a, l, d, ps, g, v, x, rfl, hG, ok, hv, hx, kS, kN⟩ := h
  rw [st_Garden_place]
  walk_at "e"
  rcases hx with ⟨s, _, rfl⟩ | rfl | rfl | rfl
  · cases hv
    refine s_isiS (b := true) (by decide +kernel) (bT_of ?_)
    walk_at "e"
    refine g_order T hG (Ex.refl _) (s_dinS hG.ord ?_)
    rw [ordL_get]
    cases hq : nameIx g.pots s with
    | none =>
      walk_at "e"
      exact kN hq
    | some i =>
      walk_at "e"
      refine g_order T hG (Ex.refl _) ?_
      walk_at "e"
      exact s_dgetS hG.ord (by rw [ordL_get, hq]; rfl) (kS i hq)
  · cases hv
    refine s_isiN (b := false) (by decide +kernel) (bT_of ?_)
    walk_at "e"
    exact kN rfl
  · cases hv
    refine s_isiI (b := false) (by decide +kernel) (bT_of ?_)
    walk_at "e"
    exact kN rfl
  · cases hv with
    | lst ha _ =>
    refine s_isiL ha (b := false) (by decide +kernel) (bT_of ?_)
    walk_at "e"
    exact kN rfl
theorem ok_Garden_place (T : Txt K mg) : Mt P w K mg base (L2.CX P w) 1 (ga K "Garden") "place" ["self", "name"] (spPlace K) := let ⟨fd, F⟩ := T.d_Garden_place; mk_mt (fn_Garden_place T F) T.c_Garden T.m_Garden_place (F.bindsN fun _ _ _ _ _ _ us hl => match us, hl with | [_, _], _ => rfl)
def spFresh (K : PySem.W.Frag) : Sp := fun vs H Q _ => ∃ (a l d : Addr) (ps : List V) (g : Gd), vs = [.ref a] ∧ GdIn K H a l d ps g ∧ g.pots.length ≤ 3 ∧ ∀ (v : V) (H' : Hp), StA H' v (freshS g) → Ex H H' → Q v H'
theorem map_zero {α : Type} (l : List α) : l.map (fun _ => V.int 0) = List.replicate l.length (V.int 0) := by
  induction l with
  | nil => rfl
  | cons a l ih => simp only [List.map_cons, ih, List.length_cons, List.replicate_succ]
theorem rep_succ {v : V} (i : Nat) : List.replicate i v ++ [v] = List.replicate (i + 1) v := by
  induction i with
  | zero => rfl
  | succ i ih =>
    show v :: (List.replicate i v ++ [v]) = v :: List.replicate (i + 1) v
    rw [ih]
theorem sc_Garden_fresh : FnScope ["self", "pot"] ["self"] (defScope s_Garden_fresh) := ⟨rfl, rfl, rfl, by decide +kernel, rfl, by decide +kernel, by decide +kernel⟩
theorem st_Garden_fresh (p0 : V) : start ["self", "pot"] [p0] = [some p0, none] := rfl
theorem fn_Garden_fresh (T : Txt K mg) {fd : FuncData} (F : FunD K "fresh" "Garden.fresh" (defArgs s_Garden_fresh) (defBody s_Garden_fresh) (defScope s_Garden_fresh) [] [] (ma K (ga K "Garden") "fresh") fd) : FnOk P w K mg base CX0 1 (ma K (ga K "Garden") "fresh") fd ["self"] (spFresh K) := by
  refine F.ok (CX := CX0) (k := 0) sc_Garden_fresh (fun vs H Q E h => ?L) (fun cdv A outer s H vs Q E hr h => ?B)
  case L => first | (obtain ⟨_, rfl, _⟩ := h; rfl) | (obtain ⟨_, _, rfl, _⟩ := h; rfl) | (obtain ⟨_, _, _, rfl, _⟩ := h; rfl) | (obtain ⟨_, _, _, _, rfl, _⟩ := h; rfl) | (obtain ⟨_, _, _, _, _, rfl, _⟩ := h; rfl) | (obtain ⟨_, _, _, _, _, _, rfl, _⟩ := h; rfl) | (obtain ⟨_, _, _, _, _, _, _, rfl, _⟩ := h; rfl) | (obtain ⟨_, _, _, _, _, _, _, _, rfl, _⟩ := h; rfl) | (obtain ⟨_, _, _, _, _, _, _, _, _, rfl, _⟩ := h; rfl) | (obtain ⟨_, _, _, _, _, _, _, _, _, _, rfl, _⟩ := h; rfl) | (obtain ⟨_, _, _, _, _, _, _, _, _, _, _, rfl, _⟩ := h; rfl) | (obtain ⟨_, _, _, _, _, _, _, _, _, _, _, _, rfl, _⟩ := h; rfl) | (obtain ⟨_, _, _, _, _, _, _, _, _, _, _, _, _, rfl, _⟩ := h; rfl)
  case B =>
  refine ⟨_, PSs.nox ((pss_one (ps_ret (pe_tup (pa_cons pe_int (pa_cons (pe_callTy call_tupO (by rfl) T.f_tuple (by decide +kernel) (pa_cons (pe_lc (own := [("pot", 1)]) (g := (gName 1)) (tt := tYes) (te := (tC (.int 0))) rfl sc_Garden_fresh.nd (pi_list (pe_fld (pv 0) rfl)) (blkOk_by (own := [("pot", 1)]) (N := ["self", "pot"]) (sc := defScope s_Garden_fresh) (by decide +kernel)) (fun _ _ _ _ _ => (pg_name (i := 1) sc_Garden_fresh.nd rfl (Or.inl rfl))) (fun _ _ _ _ _ => pts_nil) (fun _ _ _ _ _ => pe_int)) pa_nil)) pa_nil)))))), ?_⟩
  obtain ⟨a, l, d, ps, g, rfl, hG, hn3, k⟩ := h
  rw [st_Garden_fresh]
  walk_at "e"
  refine g_pots T hG (Ex.refl _) ?_
  refine s_lcL hG.pots (fun i acc H1 => acc = List.replicate i (V.int 0)) rfl ?_ ?_
  · rintro i x acc D H1 hD hx h1 h2 e rfl
    walk_at "e"
    have hi2 : i < ps.length := (List.getElem?_eq_some_iff.mp hx).1
    rw [hG.len] at hi2
    exact lc_y (by omega) h1 h2 e (Ex.refl _) (rep_succ i)
  · rintro D H1 acc hD h1 h2 e rfl
    refine s_tupL h1 fun t ht => ?_
    walk_at "e"
    refine s_nwT (by show 2 ≤ 100000; decide) fun r hr => ?_
    refine k _ _ ⟨r, t, rfl, upd_same, ?_⟩ (ex_upd (ex_upd (e.trans ex_del) ht) hr)
    rw [upd_ne (ne_new upd_same hr), upd_same, hG.len]
    show some (HO.tup _) = some (HO.tup ((g.pots.map fun _ => (0 : Int)).map V.int))
    rw [List.map_map, ← map_zero]
    rfl
theorem ok_Garden_fresh (T : Txt K mg) : Mt P w K mg base CX0 1 (ga K "Garden") "fresh" ["self"] (spFresh K) := let ⟨fd, F⟩ := T.d_Garden_fresh; mk_mt (fn_Garden_fresh T F) T.c_Garden T.m_Garden_fresh (F.bindsN fun _ _ _ _ _ _ us hl => match us, hl with | [_], _ => rfl)
end
end Tk

set_option maxHeartbeats 4000000
/-! Days: what may be done, what comes of it. -/
namespace Tk
open PySem PySem.Spec PyProof.Rows L2 He Evl
local macro_rules | `(tactic| walk_at "e") => `(tactic| (try simp only [a_seq, a_var0, a_varS, a_c, a_asg, a_name, a_set0, a_setS, a_ret, a_retN, a_ifS, a_drop, a_next, a_op, a_un, a_I0, a_I, a_U, a_bT, a_test, a_B, a_and, a_or, a_not, a_andV, a_orV, a_notV, a_if, a_isN, a_notN, a_nil, a_cons, a_CB, a_lst, a_tup, a_dget, a_din, a_dnotin, a_dput, a_newK, a_revL, a_getN, a_putN, a_newN, a_forL, a_forT, a_forR, a_lcL, a_lcR, a_yes, a_w0, a_w1, cx_K, cx_P, cx_w, a_eqI, a_neI, a_eqS, a_neS, a_call, a_callS, a_clsFn, a_meth, a_make, a_fld, a_fldS, a_BM, a_BM0, a_sl, a_noP, a_part, a_intP, a_gTup, a_gNil, a_gCons, a_gSub, a_ipI, a_ipMul, a_aug, a_augS, a_chain, m_and, m_or, a_xp, cxh_K, a_veI, a_ost, a_mkK, a_nn, not_false_eq_true, not_true_eq_false, Option.map_some, Option.map_none, Option.isSome_some, Option.isSome_none, List.map_cons, List.map_nil, true_and, and_true, true_or, or_true, false_and, and_false, false_or, or_false, if_true, if_false, Bool.false_eq_true, decide_eq_true_eq, Bool.not_eq_true, Bool.not_true, Bool.not_false, decide_eq_false_iff_not, Bool.not_eq_eq_eq_not, reduceCtorEq, Bool.true_eq_false, List.cons_append, List.nil_append, List.append_nil]))
local macro_rules | `(tactic| walk_at "1") => `(tactic| ((try simp only [a_var0, a_varS, a_c, a_asg, a_name, a_set0, a_setS, a_ret, a_retN, a_ifS, a_drop, a_next, a_op, a_un, a_I0, a_I, a_U, a_bT, a_test, a_B, a_and, a_or, a_not, a_andV, a_orV, a_notV, a_if, a_isN, a_notN, a_nil, a_cons, a_CB, a_lst, a_tup, a_dget, a_din, a_dnotin, a_dput, a_newK, a_revL, a_getN, a_putN, a_newN, a_forL, a_forT, a_forR, a_lcL, a_lcR, a_yes, a_w0, a_w1, cx_K, cx_P, cx_w, a_eqI, a_neI, a_eqS, a_neS, a_call, a_callS, a_clsFn, a_meth, a_make, a_fld, a_fldS, a_BM, a_BM0, a_sl, a_noP, a_part, a_intP, a_gTup, a_gNil, a_gCons, a_gSub, a_ipI, a_ipMul, a_aug, a_augS, a_chain, m_and, m_or, a_xp, cxh_K, a_veI, a_ost, a_mkK, a_nn, not_false_eq_true, not_true_eq_false, Option.map_some, Option.map_none, Option.isSome_some, Option.isSome_none, List.map_cons, List.map_nil, true_and, and_true, true_or, or_true, false_and, and_false, false_or, or_false, if_true, if_false, Bool.false_eq_true, decide_eq_true_eq, Bool.not_eq_true, Bool.not_true, Bool.not_false, decide_eq_false_iff_not, Bool.not_eq_eq_eq_not, reduceCtorEq, Bool.true_eq_false, List.cons_append, List.nil_append, List.append_nil]); rw [a_seq]; (try simp only [a_var0, a_varS, a_c, a_asg, a_name, a_set0, a_setS, a_ret, a_retN, a_ifS, a_drop, a_next, a_op, a_un, a_I0, a_I, a_U, a_bT, a_test, a_B, a_and, a_or, a_not, a_andV, a_orV, a_notV, a_if, a_isN, a_notN, a_nil, a_cons, a_CB, a_lst, a_tup, a_dget, a_din, a_dnotin, a_dput, a_newK, a_revL, a_getN, a_putN, a_newN, a_forL, a_forT, a_forR, a_lcL, a_lcR, a_yes, a_w0, a_w1, cx_K, cx_P, cx_w, a_eqI, a_neI, a_eqS, a_neS, a_call, a_callS, a_clsFn, a_meth, a_make, a_fld, a_fldS, a_BM, a_BM0, a_sl, a_noP, a_part, a_intP, a_gTup, a_gNil, a_gCons, a_gSub, a_ipI, a_ipMul, a_aug, a_augS, a_chain, m_and, m_or, a_xp, cxh_K, a_veI, a_ost, a_mkK, a_nn, not_false_eq_true, not_true_eq_false, Option.map_some, Option.map_none, Option.isSome_some, Option.isSome_none, List.map_cons, List.map_nil, true_and, and_true, true_or, or_true, false_and, and_false, false_or, or_false, if_true, if_false, Bool.false_eq_true, decide_eq_true_eq, Bool.not_eq_true, Bool.not_true, Bool.not_false, decide_eq_false_iff_not, Bool.not_eq_eq_eq_not, reduceCtorEq, Bool.true_eq_false, List.cons_append, List.nil_append, List.append_nil])))
local macro_rules | `(tactic| walk_at "0") => `(tactic| (try simp only [a_var0, a_varS, a_c, a_asg, a_name, a_set0, a_setS, a_ret, a_retN, a_ifS, a_drop, a_next, a_op, a_un, a_I0, a_I, a_U, a_bT, a_test, a_B, a_and, a_or, a_not, a_andV, a_orV, a_notV, a_if, a_isN, a_notN, a_nil, a_cons, a_CB, a_lst, a_tup, a_dget, a_din, a_dnotin, a_dput, a_newK, a_revL, a_getN, a_putN, a_newN, a_forL, a_forT, a_forR, a_lcL, a_lcR, a_yes, a_w0, a_w1, cx_K, cx_P, cx_w, a_eqI, a_neI, a_eqS, a_neS, a_call, a_callS, a_clsFn, a_meth, a_make, a_fld, a_fldS, a_BM, a_BM0, a_sl, a_noP, a_part, a_intP, a_gTup, a_gNil, a_gCons, a_gSub, a_ipI, a_ipMul, a_aug, a_augS, a_chain, m_and, m_or, a_xp, cxh_K, a_veI, a_ost, a_mkK, a_nn, not_false_eq_true, not_true_eq_false, Option.map_some, Option.map_none, Option.isSome_some, Option.isSome_none, List.map_cons, List.map_nil, true_and, and_true, true_or, or_true, false_and, and_false, false_or, or_false, if_true, if_false, Bool.false_eq_true, decide_eq_true_eq, Bool.not_eq_true, Bool.not_true, Bool.not_false, decide_eq_false_iff_not, Bool.not_eq_eq_eq_not, reduceCtorEq, Bool.true_eq_false, List.cons_append, List.nil_append, List.append_nil]))
section
variable {P : Program} {w : World} {K : PySem.W.Frag} {mg : Str → Option Value} {base : Heap}
def wB (c : Nat) : Nat → Bool := fun k => c.testBit k
theorem bit1 (c k : Nat) : (Builtin.bitAnd (((c : Nat) : Int) / 2 ^ (Int.toNat ((k : Nat) : Int))) 1 = 1) ↔ (c.testBit k = true) := by
  rw [Int.toNat_natCast, int_bit]
  cases c.testBit k <;> simp
theorem bit0 (c k : Nat) : (Builtin.bitAnd (((c : Nat) : Int) / 2 ^ (Int.toNat ((k : Nat) : Int))) 1 = 0) ↔ (c.testBit k = false) := by
  rw [Int.toNat_natCast, int_bit]
  cases c.testBit k <;> simp
def spAllowed (K : PySem.W.Frag) : Sp := fun vs H Q _ => ∃ (a l d : Addr) (ps : List V) (g : Gd) (v : V) (st : Stt) (c : Nat), vs = [.ref a, v, .int (c : Nat)] ∧ GdIn K H a l d ps g ∧ g.Ok ∧ StA H v st ∧ StOk g st ∧ c < 2 ^ g.pots.length ∧
  ∀ H' : Hp, Ex H H' → Q (.bl (allowedM g st (wB c) (bitsL c).length)) H'
theorem allowed_clo {g : Gd} {st : Stt} {c : Nat} (h : closedB g st.1 = true ∨ g.cans < ((bitsL c).length : Int)) : allowedM g st (wB c) (bitsL c).length = decide (((c : Nat) : Int) = 0) := by
  unfold allowedM
  by_cases hc : c = 0
  · subst hc
    rw [if_neg (by simp [bitsL, bitsRec])]
    have : (List.range g.pots.length).all (fun k => !wB 0 k || decide (restAt g k ≤ sinceAt st k)) = true := List.all_eq_true.mpr fun k _ => by simp [wB]
    rw [this]
    simp
  · have hp : 0 < (bitsL c).length := by
      rcases Nat.eq_zero_or_pos (bitsL c).length with z | z
      · have e : bitsL c = [] := List.eq_nil_of_length_eq_zero z
        exact absurd (Nat.eq_of_testBit_eq fun i => by
          rw [Nat.zero_testBit]
          cases hb : c.testBit i with
          | false => rfl
          | true =>
            have := mem_bitsL.mpr hb
            rw [e] at this
            cases this) hc
      · exact z
    rw [if_pos]
    · exact (decide_eq_false fun q => hc (by omega)).symm
    · rw [decide_eq_true hp, Bool.true_and]
      rcases h with h | h
      · rw [h]; rfl
      · rw [decide_eq_true h]; simp
theorem allowed_opn {g : Gd} {st : Stt} {c : Nat} (h : ¬ (closedB g st.1 = true ∨ g.cans < ((bitsL c).length : Int))) (hc : c < 2 ^ g.pots.length) : allowedM g st (wB c) (bitsL c).length = decide (∀ k ∈ bitsL c, restAt g k ≤ sinceAt st k) := by
  have h1 : closedB g st.1 = false := by
    cases q : closedB g st.1 with
    | false => rfl
    | true => exact absurd (.inl q) h
  have h2 : decide (g.cans < ((bitsL c).length : Int)) = false := decide_eq_false fun q => h (.inr q)
  unfold allowedM
  rw [h1, h2, if_neg (by simp)]
  by_cases q : ∀ k ∈ bitsL c, restAt g k ≤ sinceAt st k
  · rw [decide_eq_true q]
    refine List.all_eq_true.mpr fun k hk => ?_
    cases hb : wB c k with
    | false => rfl
    | true => simp [q k (mem_bitsL.mpr hb)]
  · rw [decide_eq_false q]
    refine Bool.eq_false_iff.mpr fun z => q fun k hk => ?_
    have := List.all_eq_true.mp z k (List.mem_range.mpr (bits_lt hc hk))
    have hb : wB c k = true := mem_bitsL.mp hk
    rw [hb] at this
    simpa using this
theorem sc_allowed : FnScope ["garden", "state", "chosen", "day", "since", "places", "place"] ["garden", "state", "chosen"] (defScope s_allowed) := ⟨rfl, rfl, rfl, by decide +kernel, rfl, by decide +kernel, by decide +kernel⟩
theorem st_allowed (p0 p1 p2 : V) : start ["garden", "state", "chosen", "day", "since", "places", "place"] [p0, p1, p2] = [some p0, some p1, some p2, none, none, none, none] := rfl
theorem fn_allowed (T : Txt K mg) {fd : FuncData} (F : FunD K "allowed" "allowed" (defArgs s_allowed) (defBody s_allowed) (defScope s_allowed) [] [] (ga K "allowed") fd) : FnOk P w K mg base CX0 2 (ga K "allowed") fd ["garden", "state", "chosen"] (spAllowed K) := by
  refine F.ok (CX := CX0) (k := 1) sc_allowed (fun vs H Q E h => ?L) (fun cdv A outer s H vs Q E hr h => ?B)
  case L => first | (obtain ⟨_, rfl, _⟩ := h; rfl) | (obtain ⟨_, _, rfl, _⟩ := h; rfl) | (obtain ⟨_, _, _, rfl, _⟩ := h; rfl) | (obtain ⟨_, _, _, _, rfl, _⟩ := h; rfl) | (obtain ⟨_, _, _, _, _, rfl, _⟩ := h; rfl) | (obtain ⟨_, _, _, _, _, _, rfl, _⟩ := h; rfl) | (obtain ⟨_, _, _, _, _, _, _, rfl, _⟩ := h; rfl) | (obtain ⟨_, _, _, _, _, _, _, _, rfl, _⟩ := h; rfl) | (obtain ⟨_, _, _, _, _, _, _, _, _, rfl, _⟩ := h; rfl) | (obtain ⟨_, _, _, _, _, _, _, _, _, _, rfl, _⟩ := h; rfl) | (obtain ⟨_, _, _, _, _, _, _, _, _, _, _, rfl, _⟩ := h; rfl) | (obtain ⟨_, _, _, _, _, _, _, _, _, _, _, _, rfl, _⟩ := h; rfl) | (obtain ⟨_, _, _, _, _, _, _, _, _, _, _, _, _, rfl, _⟩ := h; rfl)
  case B =>
  refine ⟨_, PSs.nox ((pss_cons (ps_asg (pv 1) (pg_tup rfl (pgs_cons (pg_name (i := 3) sc_allowed.nd rfl (Or.inl rfl)) (pgs_cons (pg_name (i := 4) sc_allowed.nd rfl (Or.inl rfl)) pgs_nil))))
      (pss_cons (ps_set (i := 5) sc_allowed.nd rfl (Or.inl rfl) (pe_df (ok_bits_of T) (hr.mono (by decide)) rfl pass0 (pa_cons (pv 2) pa_nil)))
      (pss_cons (ps_if (PW.pt (pw_or (pt_cmpR op_eq (pe_op op_and (pe_op op_shr (pe_fld (pv 0) rfl) (pv 3)) pe_int) pe_int (nomark _)) (pw_or1 (pt_cmpR op_gt (pe_callB call_lenQ (by rfl) T.f_len (by decide +kernel) (pa_cons (pv 5) pa_nil)) (pe_fld (pv 0) rfl) (nomark _))))) (pss_one (ps_ret (pe_cmpR op_eq (pv 2) pe_int (nomark _))))
      pss_nil)
      (pss_cons (ps_for PassesOwn.never rfl (pi_list (pv 5)) (pg_name (i := 6) sc_allowed.nd rfl (Or.inl rfl))
      (pss_one (ps_if (PW.pt (pw_or (pt_cmpR op_ge (pv 6) (pe_callB call_lenQ (by rfl) T.f_len (by decide +kernel) (pa_cons (pv 4) pa_nil)) (nomark _)) (pw_or1 (pt_not (pt_val (Tk.pe_or (pe_mt (pe_ix ix_list (pe_fld (pv 0) rfl) (pv 6) (fun _ _ => rfl)) (ok_Pot_may T) (hr.mono (by decide)) pass0 (pa_cons (pe_ix ix_tup (pv 4) (pv 6) (fun _ _ => rfl)) pa_nil)) (pe_mt (pe_ix ix_list (pe_fld (pv 0) rfl) (pv 6) (fun _ _ => rfl)) (ok_Cactus_may T) (hr.mono (by decide)) pass0 (pa_cons (pe_ix ix_tup (pv 4) (pv 6) (fun _ _ => rfl)) pa_nil)))))))) (pss_one (ps_ret pe_bl))
      pss_nil)))
      (pss_one (ps_ret pe_bl))))))), ?_⟩
  obtain ⟨a, l, d, ps, g, v, st, c, rfl, hG, ok, ⟨s1, s2, rfl, h1, h2⟩, hs, hc, k⟩ := h
  rw [st_allowed]
  walk_at "e"
  refine s_tupG h1 rfl ?_
  walk_at "e"
  have hn3 := ok.n3
  have hc2 : c < 2 ^ 62 := Nat.lt_of_lt_of_le hc (Nat.pow_le_pow_right (by decide) (by omega))
  refine ⟨c, rfl, hc2, fun F H1 hF e hH => ?_⟩
  walk_at "e"
  refine g_closed T hG e ?_
  walk_at "e"
  refine ⟨hs.1, ?_⟩
  by_cases hcl : closedB g st.1 = true
  · rw [if_pos (of_decide_eq_true hcl), ← allowed_clo (.inl hcl)]
    exact k H1 e
  · rw [if_neg (fun q => hcl (decide_eq_true q))]
    refine s_lenL hH (g_cans T hG e ?_)
    walk_at "e"
    rw [List.length_map]
    by_cases hm : g.cans < ((bitsL c).length : Int)
    · rw [if_pos hm, ← allowed_clo (.inr hm)]
      exact k H1 e
    · rw [if_neg hm]
      have hop := allowed_opn (g := g) (st := st) (c := c) (fun q => q.elim hcl hm) hc
      refine s_forL hH (fun i σ H2 => ∃ v, σ = [some (.ref a), some (.ref s1), some (.int (c : Nat)), some (.int st.1), some (.ref s2), some (.ref F), v] ∧ H2 = H1 ∧ ∀ j, j < i → ∀ k, (bitsL c)[j]? = some k → restAt g k ≤ sinceAt st k)
        ⟨none, rfl, rfl, fun j hj => absurd hj (Nat.not_lt_zero j)⟩ (fun i σ H2 _ ⟨_, _, z, _⟩ => by rw [z]; exact hH) ?_ ?_
      · rintro N i x σ H2 hx ⟨v, rfl, rfl, hall⟩ hN
        rw [List.getElem?_map] at hx
        obtain ⟨k0, hk0, rfl⟩ := Option.map_eq_some_iff.mp hx
        have hkn : k0 < g.pots.length := bits_lt hc (List.mem_of_getElem? hk0)
        obtain ⟨p, hp⟩ : ∃ p, g.pots[k0]? = some p := ⟨_, List.getElem?_eq_getElem hkn⟩
        obtain ⟨y, hy, y0, y1⟩ := hs.2.2.at_ hp
        have hlen := hs.2.2.len
        have er : restAt g k0 = p.rest := by unfold restAt; rw [getD_of hp]
        have es : sinceAt st k0 = y := getD_of hy
        have hy' : atI (st.2.map V.int) ((k0 : Nat) : Int) = some (.int y) := at_nat (by rw [List.getElem?_map, hy]; rfl)
        walk_at "e"
        refine s_lenT (e _ _ h2) ?_
        walk_at "e"
        rw [List.length_map, if_neg (by omega)]
        have step : p.rest ≤ y → ∀ v, N [some (.ref a), some (.ref s1), some (.int (c : Nat)), some (.int st.1), some (.ref s2), some (.ref F), v] H2 := fun hle v => hN _ _ ⟨v, rfl, rfl, fun j hj k hk => by
          rcases Nat.lt_or_ge j i with z | z
          · exact hall j z k hk
          · have ej : j = i := by omega
            subst ej
            rw [hk0] at hk
            cases hk
            rw [er, es]
            exact hle⟩
        have stop : ¬ p.rest ≤ y → allowedM g st (wB c) (bitsL c).length = false := fun hne => by
          rw [hop]
          refine decide_eq_false fun q => hne ?_
          have := q k0 (List.mem_of_getElem? hk0)
          rwa [er, es] at this
        obtain ⟨w, hw, hP⟩ := pair_at hG.each hp
        cases hP with
        | pot ho hr' =>
          rename_i pa pdx pn pg pr
          refine .inl (g_pots T hG e ?_)
          walk_at "e"
          refine s_ixL (e _ _ hG.pots) (at_nat hw) (s_rcv (e _ _ ho) (by rw [lkS (by decide +kernel), lkS (by decide +kernel)]; rfl) ?_)
          walk_at "e"
          refine s_ixT (e _ _ h2) hy' ⟨_, _, rfl, bT_of ?_⟩
          walk_at "e"
          exact step (show pr ≤ y by omega) _
        | cac ho hr' =>
          rename_i pa pdx pn pg pr
          refine .inr (g_pots T hG e ?_)
          walk_at "e"
          refine s_ixL (e _ _ hG.pots) (at_nat hw) (s_rcv (e _ _ ho) (by rw [lkS (by decide +kernel), lkS (by decide +kernel), lkS (by decide +kernel)]; rfl) ?_)
          walk_at "e"
          refine s_ixT (e _ _ h2) hy' ⟨_, _, _, _, _, _, rfl, e _ _ ho, bT_of ?_⟩
          by_cases hle : pr ≤ y
          · rw [decide_eq_true hle]
            walk_at "e"
            exact step hle _
          · rw [decide_eq_false hle]
            walk_at "e"
            rw [← stop hle]
            exact k _ e
      · rintro σ H2 ⟨v, rfl, rfl, hall⟩
        walk_at "e"
        have : allowedM g st (wB c) (bitsL c).length = true := by
          rw [hop]
          refine decide_eq_true fun k hk => ?_
          obtain ⟨j, hj⟩ := List.mem_iff_getElem?.mp hk
          exact hall j (by rw [List.length_map]; exact (List.getElem?_eq_some_iff.mp hj).1) k hj
        rw [← this]
        exact k _ e
theorem ok_allowed (T : Txt K mg) : Df P w K mg base CX0 2 "allowed" ["garden", "state", "chosen"] [] (spAllowed K) := let ⟨fd, F⟩ := T.d_allowed; mk_df F (fn_allowed T F) T.g_allowed (F.bindsN fun _ _ _ _ _ _ us hl => match us, hl with | [_, _, _], _ => rfl)
def spBehind (K : PySem.W.Frag) : Sp := fun vs H Q _ => ∃ (a l d : Addr) (ps : List V) (g : Gd) (v : V) (st : Stt) (c : Nat), vs = [.ref a, v, .int (c : Nat)] ∧ GdIn K H a l d ps g ∧ g.Ok ∧ StA H v st ∧ StOk g st ∧
  (∀ i, dryM g st (wB c) = some i → ∀ H', Ex H H' → Q .non H') ∧ (dryM g st (wB c) = none → ∀ v' H', Ex H H' → StA H' v' (nextM g st (wB c)) → Q v' H')
theorem dry_some {g : Gd} {st : Stt} {w : Nat → Bool} {i : Nat} (hi : i < g.pots.length) (h : dryP g st w i = true) (hb : ∀ j, j < i → dryP g st w j = false) : dryM g st w = some i := by
  unfold dryM
  rw [List.find?_range_eq_some]
  exact ⟨h, List.mem_range.mpr hi, fun j hj => by rw [hb j hj]; rfl⟩
theorem dry_none {g : Gd} {st : Stt} {w : Nat → Bool} (hb : ∀ j, j < g.pots.length → dryP g st w j = false) : dryM g st w = none := by
  unfold dryM
  rw [List.find?_range_eq_none]
  intro j hj
  rw [hb j hj]
  rfl
theorem sc_behind : FnScope ["garden", "state", "chosen", "day", "since", "found", "k"] ["garden", "state", "chosen"] (defScope s_behind) := ⟨rfl, rfl, rfl, by decide +kernel, rfl, by decide +kernel, by decide +kernel⟩
theorem st_behind (p0 p1 p2 : V) : start ["garden", "state", "chosen", "day", "since", "found", "k"] [p0, p1, p2] = [some p0, some p1, some p2, none, none, none, none] := rfl
theorem fn_behind (T : Txt K mg) {fd : FuncData} (F : FunD K "behind" "behind" (defArgs s_behind) (defBody s_behind) (defScope s_behind) [] [] (ga K "behind") fd) : FnOk P w K mg base CX0 1 (ga K "behind") fd ["garden", "state", "chosen"] (spBehind K) := by
  refine F.ok (CX := CX0) (k := 0) sc_behind (fun vs H Q E h => ?L) (fun cdv A outer s H vs Q E hr h => ?B)
  case L => first | (obtain ⟨_, rfl, _⟩ := h; rfl) | (obtain ⟨_, _, rfl, _⟩ := h; rfl) | (obtain ⟨_, _, _, rfl, _⟩ := h; rfl) | (obtain ⟨_, _, _, _, rfl, _⟩ := h; rfl) | (obtain ⟨_, _, _, _, _, rfl, _⟩ := h; rfl) | (obtain ⟨_, _, _, _, _, _, rfl, _⟩ := h; rfl) | (obtain ⟨_, _, _, _, _, _, _, rfl, _⟩ := h; rfl) | (obtain ⟨_, _, _, _, _, _, _, _, rfl, _⟩ := h; rfl) | (obtain ⟨_, _, _, _, _, _, _, _, _, rfl, _⟩ := h; rfl) | (obtain ⟨_, _, _, _, _, _, _, _, _, _, rfl, _⟩ := h; rfl) | (obtain ⟨_, _, _, _, _, _, _, _, _, _, _, rfl, _⟩ := h; rfl) | (obtain ⟨_, _, _, _, _, _, _, _, _, _, _, _, rfl, _⟩ := h; rfl) | (obtain ⟨_, _, _, _, _, _, _, _, _, _, _, _, _, rfl, _⟩ := h; rfl)
  case B =>
  refine ⟨_, PSs.nox ((pss_cons (ps_asg (pv 1) (pg_tup rfl (pgs_cons (pg_name (i := 3) sc_behind.nd rfl (Or.inl rfl)) (pgs_cons (pg_name (i := 4) sc_behind.nd rfl (Or.inl rfl)) pgs_nil))))
      (pss_cons (ps_set (i := 5) sc_behind.nd rfl (Or.inl rfl) (pe_lst pa_nil))
      (pss_cons (ps_for PassesOwn.never rfl (pi_range1 rfl T.f_range (pa_cons (pe_callB call_lenQ (by rfl) T.f_len (by decide +kernel) (pa_cons (pv 4) pa_nil)) pa_nil)) (pg_name (i := 6) sc_behind.nd rfl (Or.inl rfl))
      (pss_one (ps_if (pt_cmpR op_eq (pe_op op_and (pe_op op_shr (pv 2) (pv 6)) pe_int) pe_int (nomark _)) (pss_one (ps_expr (pe_bm PySem.F.plainAttrs_list PySem.F.slot_list_append PySem.F.type_list_append mt_append (pv 5) (pa_cons pe_int pa_nil))))
      (pss_one (ps_if (pt_cmpR op_eq (pe_op op_add (pe_ix ix_tup (pv 4) (pv 6) (fun _ _ => rfl)) pe_int) (pe_fld (pe_ix ix_list (pe_fld (pv 0) rfl) (pv 6) (fun _ _ => rfl)) rfl) (nomark _)) (pss_one (ps_ret pe_non))
      (pss_one (ps_expr (pe_bm PySem.F.plainAttrs_list PySem.F.slot_list_append PySem.F.type_list_append mt_append (pv 5) (pa_cons (pe_op op_add (pe_ix ix_tup (pv 4) (pv 6) (fun _ _ => rfl)) pe_int) pa_nil)))))))))
      (pss_one (ps_ret (pe_tup (pa_cons (pe_op op_mod (pe_op op_add (pv 3) pe_int) (pe_fld (pv 0) rfl)) (pa_cons (pe_callTy call_tupO (by rfl) T.f_tuple (by decide +kernel) (pa_cons (pv 5) pa_nil)) pa_nil))))))))), ?_⟩
  obtain ⟨a, l, d, ps, g, v, st, c, rfl, hG, ok, ⟨s1, s2, rfl, h1, h2⟩, hs, kD, kN⟩ := h
  rw [st_behind]
  walk_at "e"
  refine s_tupG h1 rfl ?_
  walk_at "e"
  have hn3 := ok.n3
  have hlen := hs.2.2.len
  refine s_nil fun F hF => ?_
  walk_at "e"
  refine s_lenT ((Ex.new hF) _ _ h2) ?_
  rw [List.length_map]
  have e0 : Ex H (upd H F (.lst [])) := Ex.new hF
  refine s_forR (by omega) (fun i σ H1 => ∃ v, σ = [some (.ref a), some (.ref s1), some (.int (c : Nat)), some (.int st.1), some (.ref s2), some (.ref F), v] ∧ Ex H H1 ∧ H1 F = some (.lst (((nextL st.2 (wB c)).take i).map V.int)) ∧ ∀ j, j < i → dryP g st (wB c) j = false)
    ⟨none, rfl, e0, upd_same, fun j hj => absurd hj (Nat.not_lt_zero j)⟩ ?_ ?_
  · rintro N i σ H1 hi ⟨v, rfl, e, hH, hnd⟩ hN
    have hin : i < g.pots.length := by omega
    obtain ⟨p, hp⟩ : ∃ p, g.pots[i]? = some p := ⟨_, List.getElem?_eq_getElem hin⟩
    obtain ⟨y, hy, y0, y1⟩ := hs.2.2.at_ hp
    have eg : gapAt g i = p.gap := by unfold gapAt; rw [getD_of hp]
    have es : sinceAt st i = y := getD_of hy
    have hy' : atI (st.2.map V.int) ((i : Nat) : Int) = some (.int y) := at_nat (by rw [List.getElem?_map, hy]; rfl)
    have hnx := nextL_at (w := wB c) hy
    have hll : ((nextL st.2 (wB c)).take i).length < 100000 := by rw [List.length_take]; omega
    have fin : ∀ z : Int, (nextL st.2 (wB c))[i]? = some z → dryP g st (wB c) i = false → ∀ v, N [some (.ref a), some (.ref s1), some (.int (c : Nat)), some (.int st.1), some (.ref s2), some (.ref F), v] (upd H1 F (.lst (((nextL st.2 (wB c)).take i).map V.int ++ [V.int z]))) := fun z hz hd v =>
      hN _ _ ⟨v, rfl, e.mut hF, by rw [upd_same, take_succ hz, List.map_append]; rfl, fun j hj => by
        rcases Nat.lt_or_ge j i with q | q
        · exact hnd j q
        · have ej : j = i := by omega
          subst ej
          exact hd⟩
    walk_at "e"
    refine ⟨by omega, ?_⟩
    by_cases hb : c.testBit i = true
    · rw [if_pos ((bit1 c i).mpr hb)]
      refine s_app hH (by rw [List.length_map]; exact hll) (fin 0 (by rw [hnx]; exact congrArg some (if_pos hb)) (by unfold dryP wB; rw [hb]; rfl) _)
    · rw [if_neg (fun q => hb ((bit1 c i).mp q))]
      have hbf : c.testBit i = false := by simpa using hb
      refine s_ixT (e _ _ h2) hy' ?_
      walk_at "e"
      refine g_pots T hG e (g_pot hG e hp fun w hP => p_gap T hP e ?_)
      walk_at "e"
      by_cases hq : y + 1 = p.gap
      · rw [if_pos hq]
        exact kD i (dry_some hin (by unfold dryP wB; rw [hbf, es, eg, decide_eq_true hq]; rfl) hnd) _ e
      · rw [if_neg hq]
        refine s_bm hH (s_ixT (e _ _ h2) hy' ?_)
        walk_at "e"
        refine s_apq hH (by rw [List.length_map]; exact hll) (fin (y + 1) (by rw [hnx]; exact congrArg some (if_neg hb)) (by unfold dryP wB; rw [hbf, es, eg, decide_eq_false hq]; rfl) _)
  · rintro σ H1 ⟨v, rfl, e, hH, hnd⟩
    walk_at "e"
    refine g_week T hG e ?_
    walk_at "e"
    have w0 := ok.w0
    refine ⟨by omega, s_tupL hH fun t ht => ?_⟩
    walk_at "e"
    refine s_nwT (by show 2 ≤ 100000; decide) fun r hr => ?_
    refine kN (dry_none fun j hj => hnd j (by omega)) _ _ (ex_upd (ex_upd e ht) hr) ⟨r, t, rfl, upd_same, ?_⟩
    rw [upd_ne (ne_new upd_same hr), upd_same]
    have : (nextL st.2 (wB c)).length = st.2.length := by unfold nextL; rw [List.length_mapIdx]
    rw [← this, List.take_length]
    rfl
theorem ok_behind (T : Txt K mg) : Df P w K mg base CX0 1 "behind" ["garden", "state", "chosen"] [] (spBehind K) := let ⟨fd, F⟩ := T.d_behind; mk_df F (fn_behind T F) T.g_behind (F.bindsN fun _ _ _ _ _ _ us hl => match us, hl with | [_, _, _], _ => rfl)
def spDry (K : PySem.W.Frag) : Sp := fun vs H Q _ => ∃ (a l d : Addr) (ps : List V) (g : Gd) (v : V) (st : Stt) (c i : Nat), vs = [.ref a, v, .int (c : Nat)] ∧ GdIn K H a l d ps g ∧ g.Ok ∧ StA H v st ∧ StOk g st ∧
  dryM g st (wB c) = some i ∧ Q (.str (nameAt g i)) H
theorem sc_dry_pot : FnScope ["garden", "state", "chosen", "since", "k"] ["garden", "state", "chosen"] (defScope s_dry_pot) := ⟨rfl, rfl, rfl, by decide +kernel, rfl, by decide +kernel, by decide +kernel⟩
theorem st_dry_pot (p0 p1 p2 : V) : start ["garden", "state", "chosen", "since", "k"] [p0, p1, p2] = [some p0, some p1, some p2, none, none] := rfl
theorem fn_dry_pot (T : Txt K mg) {fd : FuncData} (F : FunD K "dry_pot" "dry_pot" (defArgs s_dry_pot) (defBody s_dry_pot) (defScope s_dry_pot) [] [] (ga K "dry_pot") fd) : FnOk P w K mg base CX0 1 (ga K "dry_pot") fd ["garden", "state", "chosen"] (spDry K) := by
  refine F.ok (CX := CX0) (k := 0) sc_dry_pot (fun vs H Q E h => ?L) (fun cdv A outer s H vs Q E hr h => ?B)
  case L => first | (obtain ⟨_, rfl, _⟩ := h; rfl) | (obtain ⟨_, _, rfl, _⟩ := h; rfl) | (obtain ⟨_, _, _, rfl, _⟩ := h; rfl) | (obtain ⟨_, _, _, _, rfl, _⟩ := h; rfl) | (obtain ⟨_, _, _, _, _, rfl, _⟩ := h; rfl) | (obtain ⟨_, _, _, _, _, _, rfl, _⟩ := h; rfl) | (obtain ⟨_, _, _, _, _, _, _, rfl, _⟩ := h; rfl) | (obtain ⟨_, _, _, _, _, _, _, _, rfl, _⟩ := h; rfl) | (obtain ⟨_, _, _, _, _, _, _, _, _, rfl, _⟩ := h; rfl) | (obtain ⟨_, _, _, _, _, _, _, _, _, _, rfl, _⟩ := h; rfl) | (obtain ⟨_, _, _, _, _, _, _, _, _, _, _, rfl, _⟩ := h; rfl) | (obtain ⟨_, _, _, _, _, _, _, _, _, _, _, _, rfl, _⟩ := h; rfl) | (obtain ⟨_, _, _, _, _, _, _, _, _, _, _, _, _, rfl, _⟩ := h; rfl)
  case B =>
  refine ⟨_, PSs.nox ((pss_cons (ps_set (i := 3) sc_dry_pot.nd rfl (Or.inl rfl) (pe_ix ix_tup (pv 1) pe_int (fun _ _ => rfl)))
      (pss_cons (ps_for PassesOwn.never rfl (pi_range1 rfl T.f_range (pa_cons (pe_callB call_lenQ (by rfl) T.f_len (by decide +kernel) (pa_cons (pv 3) pa_nil)) pa_nil)) (pg_name (i := 4) sc_dry_pot.nd rfl (Or.inl rfl))
      (pss_one (ps_if (PW.pt (pw_and (pt_cmpR op_eq (pe_op op_and (pe_op op_shr (pv 2) (pv 4)) pe_int) pe_int (nomark _)) (pw_and1 (pt_cmpR op_eq (pe_op op_add (pe_ix ix_tup (pv 3) (pv 4) (fun _ _ => rfl)) pe_int) (pe_fld (pe_ix ix_list (pe_fld (pv 0) rfl) (pv 4) (fun _ _ => rfl)) rfl) (nomark _))))) (pss_one (ps_ret (pe_fld (pe_ix ix_list (pe_fld (pv 0) rfl) (pv 4) (fun _ _ => rfl)) rfl)))
      pss_nil)))
      (pss_one (ps_ret pe_non))))), ?_⟩
  obtain ⟨a, l, d, ps, g, v, st, c, i0, rfl, hG, ok, ⟨s1, s2, rfl, h1, h2⟩, hs, hdry, k⟩ := h
  rw [st_dry_pot]
  walk_at "e"
  have hn3 := ok.n3
  have hlen := hs.2.2.len
  have e1 : atI [V.int st.1, V.ref s2] 1 = some (V.ref s2) := rfl
  refine s_ixT h1 e1 ?_
  walk_at "e"
  refine s_lenT h2 ?_
  rw [List.length_map]
  refine s_forR (by omega) (fun i σ H1 => ∃ v, σ = [some (.ref a), some (.ref s1), some (.int (c : Nat)), some (.ref s2), v] ∧ H1 = H ∧ ∀ j, j < i → dryP g st (wB c) j = false)
    ⟨none, rfl, rfl, fun j hj => absurd hj (Nat.not_lt_zero j)⟩ ?_ ?_
  · rintro N i σ H1 hi ⟨v, rfl, rfl, hnd⟩ hN
    have hin : i < g.pots.length := by omega
    obtain ⟨p, hp⟩ : ∃ p, g.pots[i]? = some p := ⟨_, List.getElem?_eq_getElem hin⟩
    obtain ⟨y, hy, y0, y1⟩ := hs.2.2.at_ hp
    have eg : gapAt g i = p.gap := by unfold gapAt; rw [getD_of hp]
    have es : sinceAt st i = y := getD_of hy
    have hy' : atI (st.2.map V.int) ((i : Nat) : Int) = some (.int y) := at_nat (by rw [List.getElem?_map, hy]; rfl)
    have fin : dryP g st (wB c) i = false → ∀ v, N [some (.ref a), some (.ref s1), some (.int (c : Nat)), some (.ref s2), v] H1 := fun hd v =>
      hN _ _ ⟨v, rfl, rfl, fun j hj => by
        rcases Nat.lt_or_ge j i with q | q
        · exact hnd j q
        · have ej : j = i := by omega
          subst ej
          exact hd⟩
    walk_at "e"
    refine ⟨by omega, ?_⟩
    by_cases hb : c.testBit i = true
    · rw [if_neg (fun q => by have := (bit0 c i).mp q; rw [hb] at this; cases this)]
      exact fin (by unfold dryP wB; rw [hb]; rfl) _
    · have hbf : c.testBit i = false := by simpa using hb
      rw [if_pos ((bit0 c i).mpr hbf)]
      refine s_ixT h2 hy' ?_
      walk_at "e"
      refine g_pots T hG (Ex.refl _) (g_pot hG (Ex.refl _) hp fun w hP => p_gap T hP (Ex.refl _) ?_)
      walk_at "e"
      by_cases hq : y + 1 = p.gap
      · rw [if_pos hq]
        refine g_pots T hG (Ex.refl _) (g_pot hG (Ex.refl _) hp fun w hP => p_name T hP (Ex.refl _) ?_)
        have hd := dry_some hin (w := wB c) (st := st) (by unfold dryP wB; rw [hbf, es, eg, decide_eq_true hq]; rfl) hnd
        rw [hdry] at hd
        cases hd
        have en : nameAt g i0 = p.name := by unfold nameAt; rw [getD_of hp]
        rw [← en]
        exact k
      · rw [if_neg hq]
        exact fin (by unfold dryP wB; rw [hbf, es, eg, decide_eq_false hq]; rfl) _
  · rintro σ H1 ⟨v, rfl, rfl, hnd⟩
    rw [dry_none fun j hj => hnd j (by omega)] at hdry
    cases hdry
theorem ok_dry_pot (T : Txt K mg) : Df P w K mg base CX0 1 "dry_pot" ["garden", "state", "chosen"] [] (spDry K) := let ⟨fd, F⟩ := T.d_dry_pot; mk_df F (fn_dry_pot T F) T.g_dry_pot (F.bindsN fun _ _ _ _ _ _ us hl => match us, hl with | [_, _, _], _ => rfl)
/-- the bits' names -/
def spNamesOf (K : PySem.W.Frag) : Sp := fun vs H Q _ => ∃ (a l d : Addr) (ps : List V) (g : Gd) (c : Nat), vs = [.ref a, .int (c : Nat)] ∧ GdIn K H a l d ps g ∧ g.Ok ∧ c < 2 ^ g.pots.length ∧
  ∀ (p : Addr) (ns : List Str) (H' : Hp), H p = none → Ex H H' → H' p = some (.lst (ns.map V.str)) → ns.length ≤ 3 → (∀ n ∈ ns, n ∈ five) → Q (.ref p) H'
theorem sc_names_of : FnScope ["garden", "chosen", "place"] ["garden", "chosen"] (defScope s_names_of) := ⟨rfl, rfl, rfl, by decide +kernel, rfl, by decide +kernel, by decide +kernel⟩
theorem st_names_of (p0 p1 : V) : start ["garden", "chosen", "place"] [p0, p1] = [some p0, some p1, none] := rfl
theorem fn_names_of (T : Txt K mg) {fd : FuncData} (F : FunD K "names_of" "names_of" (defArgs s_names_of) (defBody s_names_of) (defScope s_names_of) [] [] (ga K "names_of") fd) : FnOk P w K mg base CX0 2 (ga K "names_of") fd ["garden", "chosen"] (spNamesOf K) := by
  refine F.ok (CX := CX0) (k := 1) sc_names_of (fun vs H Q E h => ?L) (fun cdv A outer s H vs Q E hr h => ?B)
  case L => first | (obtain ⟨_, rfl, _⟩ := h; rfl) | (obtain ⟨_, _, rfl, _⟩ := h; rfl) | (obtain ⟨_, _, _, rfl, _⟩ := h; rfl) | (obtain ⟨_, _, _, _, rfl, _⟩ := h; rfl) | (obtain ⟨_, _, _, _, _, rfl, _⟩ := h; rfl) | (obtain ⟨_, _, _, _, _, _, rfl, _⟩ := h; rfl) | (obtain ⟨_, _, _, _, _, _, _, rfl, _⟩ := h; rfl) | (obtain ⟨_, _, _, _, _, _, _, _, rfl, _⟩ := h; rfl) | (obtain ⟨_, _, _, _, _, _, _, _, _, rfl, _⟩ := h; rfl) | (obtain ⟨_, _, _, _, _, _, _, _, _, _, rfl, _⟩ := h; rfl) | (obtain ⟨_, _, _, _, _, _, _, _, _, _, _, rfl, _⟩ := h; rfl) | (obtain ⟨_, _, _, _, _, _, _, _, _, _, _, _, rfl, _⟩ := h; rfl) | (obtain ⟨_, _, _, _, _, _, _, _, _, _, _, _, _, rfl, _⟩ := h; rfl)
  case B =>
  refine ⟨_, PSs.nox ((pss_one (ps_ret (pe_lc (own := [("place", 2)]) (g := (gName 2)) (tt := tYes) (te := (tFld K (tOp (rIxL K) (tFld K (tVar 0) "pots") (tVar 2)) "name")) rfl sc_names_of.nd (pi_list (pe_df (ok_bits_of T) (hr.mono (by decide)) rfl pass0 (pa_cons (pv 1) pa_nil))) (blkOk_by (own := [("place", 2)]) (N := ["garden", "chosen", "place"]) (sc := defScope s_names_of) (by decide +kernel)) (fun _ _ _ _ _ => (pg_name (i := 2) sc_names_of.nd rfl (Or.inl rfl))) (fun _ _ _ _ _ => pts_nil) (fun _ _ _ _ _ => (pe_fld (pe_ix ix_list (pe_fld (pv 0) rfl) (pv 2) (fun _ _ => rfl)) rfl)))))), ?_⟩
  obtain ⟨a, l, d, ps, g, c, rfl, hG, ok, hc, k⟩ := h
  rw [st_names_of]
  walk_at "e"
  have hn3 := ok.n3
  have hc2 : c < 2 ^ 62 := Nat.lt_of_lt_of_le hc (Nat.pow_le_pow_right (by decide) (by omega))
  have hbl : (bitsL c).length ≤ 3 := by
    have := nodup_le (nodup_bitsL c) (m := List.range g.pots.length) fun k hk => List.mem_range.mpr (bits_lt hc hk)
    rw [List.length_range] at this
    omega
  refine ⟨c, rfl, hc2, fun F H1 hF e hH => ?_⟩
  walk_at "e"
  refine s_lcL hH (fun i acc H2 => ∃ ns : List Str, acc = ns.map V.str ∧ ∀ n ∈ ns, n ∈ five) ⟨[], rfl, fun n hn => by cases hn⟩ ?_ ?_
  · rintro i x acc D H2 hD hx h1 h2 e2 ⟨ns, rfl, hfive⟩
    rw [List.getElem?_map] at hx
    obtain ⟨k0, hk0, rfl⟩ := Option.map_eq_some_iff.mp hx
    have hkn : k0 < g.pots.length := bits_lt hc (List.mem_of_getElem? hk0)
    obtain ⟨p, hp⟩ : ∃ p, g.pots[k0]? = some p := ⟨_, List.getElem?_eq_getElem hkn⟩
    have e3 : Ex H H2 := e.trans (e2.trans ex_del)
    have hi := (List.getElem?_eq_some_iff.mp hk0).1
    walk_at "e"
    refine g_pots T hG e3 (g_pot hG e3 hp fun w hP => p_name T hP e3 ?_)
    exact lc_y (by omega) h1 h2 e2 (Ex.refl _) ⟨ns ++ [p.name], by rw [List.map_append]; rfl, fun n hn => by
      rcases List.mem_append.mp hn with z | z
      · exact hfive n z
      · have en : n = p.name := by simpa using z
        rw [en]
        exact ok.nm p (List.mem_of_getElem? hp)⟩
  · rintro D H2 acc hD h1 h2 e2 ⟨ns, rfl, hfive⟩
    rw [List.length_map, List.length_map] at h2
    exact k D ns H2 (fresh_back e hD) (e.trans (e2.trans ex_del)) h1 (by omega) hfive
theorem ok_names_of (T : Txt K mg) : Df P w K mg base CX0 2 "names_of" ["garden", "chosen"] [] (spNamesOf K) := let ⟨fd, F⟩ := T.d_names_of; mk_df F (fn_names_of T F) T.g_names_of (F.bindsN fun _ _ _ _ _ _ us hl => match us, hl with | [_, _], _ => rfl)
/-- choices: tuples of bits and the state behind -/
def ChIn (g : Gd) (H : Hp) (us : List V) : Prop := ∀ u ∈ us, ∃ (t : Addr) (c : Nat) (v : V) (st : Stt), u = .ref t ∧ H t = some (.tup [.int (c : Nat), v]) ∧ c < 2 ^ g.pots.length ∧ StA H v st ∧ StOk g st
theorem ChIn.mono {g : Gd} {H H' : Hp} {us : List V} (e : Ex H H') (h : ChIn g H us) : ChIn g H' us := fun u hu => let ⟨t, c, v, st, h1, h2, h3, h4, h5⟩ := h u hu; ⟨t, c, v, st, h1, e _ _ h2, h3, h4.mono e, h5⟩
def spChoices (K : PySem.W.Frag) : Sp := fun vs H Q _ => ∃ (a l d : Addr) (ps : List V) (g : Gd) (v : V) (st : Stt), vs = [.ref a, v] ∧ GdIn K H a l d ps g ∧ g.Ok ∧ StA H v st ∧ StOk g st ∧
  ∀ (p : Addr) (us : List V) (H' : Hp), Ex H H' → H' p = some (.lst us) → us.length ≤ 8 → ChIn g H' us → Q (.ref p) H'
theorem shl_n (n : Nat) : (1 : Int) * 2 ^ (Int.toNat ((n : Nat) : Int)) = ((2 ^ n : Nat) : Int) := by
  rw [Int.toNat_natCast]
  simp
theorem sc_choices : FnScope ["garden", "state", "found", "chosen", "ahead"] ["garden", "state"] (defScope s_choices) := ⟨rfl, rfl, rfl, by decide +kernel, rfl, by decide +kernel, by decide +kernel⟩
theorem st_choices (p0 p1 : V) : start ["garden", "state", "found", "chosen", "ahead"] [p0, p1] = [some p0, some p1, none, none, none] := rfl
theorem fn_choices (T : Txt K mg) {fd : FuncData} (F : FunD K "choices" "choices" (defArgs s_choices) (defBody s_choices) (defScope s_choices) [] [] (ga K "choices") fd) : FnOk P w K mg base CX0 4 (ga K "choices") fd ["garden", "state"] (spChoices K) := by
  refine F.ok (CX := CX0) (k := 3) sc_choices (fun vs H Q E h => ?L) (fun cdv A outer s H vs Q E hr h => ?B)
  case L => first | (obtain ⟨_, rfl, _⟩ := h; rfl) | (obtain ⟨_, _, rfl, _⟩ := h; rfl) | (obtain ⟨_, _, _, rfl, _⟩ := h; rfl) | (obtain ⟨_, _, _, _, rfl, _⟩ := h; rfl) | (obtain ⟨_, _, _, _, _, rfl, _⟩ := h; rfl) | (obtain ⟨_, _, _, _, _, _, rfl, _⟩ := h; rfl) | (obtain ⟨_, _, _, _, _, _, _, rfl, _⟩ := h; rfl) | (obtain ⟨_, _, _, _, _, _, _, _, rfl, _⟩ := h; rfl) | (obtain ⟨_, _, _, _, _, _, _, _, _, rfl, _⟩ := h; rfl) | (obtain ⟨_, _, _, _, _, _, _, _, _, _, rfl, _⟩ := h; rfl) | (obtain ⟨_, _, _, _, _, _, _, _, _, _, _, rfl, _⟩ := h; rfl) | (obtain ⟨_, _, _, _, _, _, _, _, _, _, _, _, rfl, _⟩ := h; rfl) | (obtain ⟨_, _, _, _, _, _, _, _, _, _, _, _, _, rfl, _⟩ := h; rfl)
  case B =>
  refine ⟨_, PSs.nox ((pss_cons (ps_expr (pe_mt (pv 0) (ok_Garden_number T) (hr.mono (by decide)) pass0 (pa_cons (pv 1) pa_nil)))
      (pss_cons (ps_set (i := 2) sc_choices.nd rfl (Or.inl rfl) (pe_lst pa_nil))
      (pss_cons (ps_for PassesOwn.never rfl (pi_range1 rfl T.f_range (pa_cons (pe_op op_shl pe_int (pe_callB call_lenQ (by rfl) T.f_len (by decide +kernel) (pa_cons (pe_fld (pv 0) rfl) pa_nil))) pa_nil)) (pg_name (i := 3) sc_choices.nd rfl (Or.inl rfl))
      (pss_one (ps_if (pt_val (pe_df (ok_allowed T) (hr.mono (by decide)) rfl pass0 (pa_cons (pv 0) (pa_cons (pv 1) (pa_cons (pv 3) pa_nil))))) (pss_cons (ps_set (i := 4) sc_choices.nd rfl (Or.inl rfl) (pe_df (ok_behind T) (hr.mono (by decide)) rfl pass0 (pa_cons (pv 0) (pa_cons (pv 1) (pa_cons (pv 3) pa_nil)))))
      (pss_one (ps_if (pt_cmpR op_notN (pv 4) pe_non (nomark _)) (pss_one (ps_expr (pe_bm PySem.F.plainAttrs_list PySem.F.slot_list_append PySem.F.type_list_append mt_append (pv 2) (pa_cons (pe_tup (pa_cons (pv 3) (pa_cons (pv 4) pa_nil))) pa_nil))))
      pss_nil)))
      pss_nil)))
      (pss_one (ps_ret (pv 2))))))), ?_⟩
  obtain ⟨a, l, d, ps, g, v, st, rfl, hG, ok, hst, hs, k⟩ := h
  rw [st_choices]
  walk_at "e"
  have hn3 := ok.n3
  refine g_rcv hG (Ex.refl _) (by decide +kernel) (by decide +kernel) (by decide +kernel) (by decide +kernel) (by decide +kernel) ?_
  refine ⟨a, l, d, ps, g, v, st, rfl, hG, ok, hst, hs, ?_⟩
  walk_at "e"
  refine s_nil fun F hF => ?_
  have e0 : Ex H (upd H F (.lst [])) := Ex.new hF
  walk_at "e"
  refine g_pots T hG e0 ?_
  refine s_lenL (e0 _ _ hG.pots) ?_
  walk_at "e"
  rw [hG.len]
  refine ⟨⟨by omega, by omega, by decide⟩, ?_⟩
  rw [shl_n]
  have h8 : 2 ^ g.pots.length ≤ 8 := Nat.le_trans (Nat.pow_le_pow_right (by decide) hn3) (by decide)
  refine s_forR (by omega) (fun i σ H1 => ∃ us v4 v5, σ = [some (.ref a), some v, some (.ref F), v4, v5] ∧ Ex H (del H1 F) ∧ H1 F = some (.lst us) ∧ us.length ≤ i ∧ ChIn g (del H1 F) us)
    ⟨[], none, none, rfl, ex_into e0 hF, upd_same, Nat.le_refl _, fun u hu => by cases hu⟩ ?_ ?_
  · rintro N i σ H1 hi ⟨us, v4, v5, rfl, e, hH, hl, hch⟩ hN
    have e1 : Ex H H1 := e.trans ex_del
    have skip : ∀ H2 v4 v5, Ex H1 H2 → N [some (.ref a), some v, some (.ref F), v4, v5] H2 := fun H2 v4 v5 e2 => hN _ _ ⟨us, v4, v5, rfl, e.trans (ex_del2 e2), e2 _ _ hH, by omega, hch.mono (ex_del2 e2)⟩
    walk_at "e"
    refine ⟨a, l, d, ps, g, v, st, i, rfl, hG.mono e1, ok, hst.mono e1, hs, hi, fun H2 e2 => ?_⟩
    walk_at "e"
    cases hal : allowedM g st (wB i) (bitsL i).length with
    | false =>
      walk_at "e"
      exact skip _ _ _ e2
    | true =>
      walk_at "e"
      refine ⟨a, l, d, ps, g, v, st, i, rfl, hG.mono (e1.trans e2), ok, hst.mono (e1.trans e2), hs, fun j hj H3 e3 => ?_, fun hj v' H3 e3 hv' => ?_⟩
      · walk_at "e"
        exact skip _ _ _ (e2.trans e3)
      · obtain ⟨z1, z2, rfl, hz1, hz2⟩ := id hv'
        walk_at "e"
        have e13 := e2.trans e3
        have hF3 := e13 _ _ hH
        refine s_bm hF3 ?_
        refine s_nwT (by show 2 ≤ 100000; decide) fun t ht => ?_
        have nFt : F ≠ t := ne_new hF3 ht
        have n1 : z1 ≠ t := ne_new hz1 ht
        have e4 : Ex H3 (upd H3 t (.tup [V.int ((i : Nat) : Int), V.ref z1])) := Ex.new ht
        refine s_apq (e4 _ _ hF3) (by omega) (hN _ _ ⟨us ++ [V.ref t], _, _, rfl, ?_, upd_same, by simp; omega, ?_⟩)
        · rw [del_upd]
          exact e.trans (ex_del2 (e13.trans e4))
        · rw [del_upd]
          intro u hu
          rcases List.mem_append.mp hu with z | z
          · exact (hch.mono (ex_del2 (e13.trans e4))) u z
          · have eu : u = V.ref t := by simpa using z
            have nz1 : z1 ≠ F := fun q => by rw [q, hF3] at hz1; cases hz1
            have nz2 : z2 ≠ F := fun q => by rw [q, hF3] at hz2; cases hz2
            refine ⟨t, i, .ref z1, _, eu, ?_, hi, ⟨z1, z2, rfl, ?_, ?_⟩, next_ok ok hs hj⟩
            · rw [del_ne (Ne.symm nFt), upd_same]
            · rw [del_ne nz1]
              exact e4 _ _ hz1
            · rw [del_ne nz2]
              exact e4 _ _ hz2
  · rintro σ H1 ⟨us, v4, v5, rfl, e, hH, hl, hch⟩
    walk_at "e"
    exact k F us H1 (e.trans ex_del) hH (by omega) (hch.mono ex_del)
theorem ok_choices (T : Txt K mg) : Df P w K mg base CX0 4 "choices" ["garden", "state"] [] (spChoices K) := let ⟨fd, F⟩ := T.d_choices; mk_df F (fn_choices T F) T.g_choices (F.bindsN fun _ _ _ _ _ _ us hl => match us, hl with | [_, _], _ => rfl)
end
end Tk

set_option maxHeartbeats 4000000
/-! Told plans. -/
namespace Tk
open PySem PySem.Spec PyProof.Rows L2 He Evl
local macro_rules | `(tactic| walk_at "e") => `(tactic| (try simp only [a_seq, a_var0, a_varS, a_c, a_asg, a_name, a_set0, a_setS, a_ret, a_retN, a_ifS, a_drop, a_next, a_op, a_un, a_I0, a_I, a_U, a_bT, a_test, a_B, a_and, a_or, a_not, a_andV, a_orV, a_notV, a_if, a_isN, a_notN, a_nil, a_cons, a_CB, a_lst, a_tup, a_dget, a_din, a_dnotin, a_dput, a_newK, a_revL, a_getN, a_putN, a_newN, a_forL, a_forT, a_forR, a_lcL, a_lcR, a_yes, a_w0, a_w1, cx_K, cx_P, cx_w, a_eqI, a_neI, a_eqS, a_neS, a_call, a_callS, a_clsFn, a_meth, a_make, a_fld, a_fldS, a_BM, a_BM0, a_sl, a_noP, a_part, a_intP, a_gTup, a_gNil, a_gCons, a_gSub, a_ipI, a_ipMul, a_aug, a_augS, a_chain, m_and, m_or, a_xp, cxh_K, a_veI, a_ost, a_mkK, a_nn, not_false_eq_true, not_true_eq_false, Option.map_some, Option.map_none, Option.isSome_some, Option.isSome_none, List.map_cons, List.map_nil, true_and, and_true, true_or, or_true, false_and, and_false, false_or, or_false, if_true, if_false, Bool.false_eq_true, decide_eq_true_eq, Bool.not_eq_true, Bool.not_true, Bool.not_false, decide_eq_false_iff_not, Bool.not_eq_eq_eq_not, reduceCtorEq, Bool.true_eq_false, List.cons_append, List.nil_append, List.append_nil]))
local macro_rules | `(tactic| walk_at "1") => `(tactic| ((try simp only [a_var0, a_varS, a_c, a_asg, a_name, a_set0, a_setS, a_ret, a_retN, a_ifS, a_drop, a_next, a_op, a_un, a_I0, a_I, a_U, a_bT, a_test, a_B, a_and, a_or, a_not, a_andV, a_orV, a_notV, a_if, a_isN, a_notN, a_nil, a_cons, a_CB, a_lst, a_tup, a_dget, a_din, a_dnotin, a_dput, a_newK, a_revL, a_getN, a_putN, a_newN, a_forL, a_forT, a_forR, a_lcL, a_lcR, a_yes, a_w0, a_w1, cx_K, cx_P, cx_w, a_eqI, a_neI, a_eqS, a_neS, a_call, a_callS, a_clsFn, a_meth, a_make, a_fld, a_fldS, a_BM, a_BM0, a_sl, a_noP, a_part, a_intP, a_gTup, a_gNil, a_gCons, a_gSub, a_ipI, a_ipMul, a_aug, a_augS, a_chain, m_and, m_or, a_xp, cxh_K, a_veI, a_ost, a_mkK, a_nn, not_false_eq_true, not_true_eq_false, Option.map_some, Option.map_none, Option.isSome_some, Option.isSome_none, List.map_cons, List.map_nil, true_and, and_true, true_or, or_true, false_and, and_false, false_or, or_false, if_true, if_false, Bool.false_eq_true, decide_eq_true_eq, Bool.not_eq_true, Bool.not_true, Bool.not_false, decide_eq_false_iff_not, Bool.not_eq_eq_eq_not, reduceCtorEq, Bool.true_eq_false, List.cons_append, List.nil_append, List.append_nil]); rw [a_seq]; (try simp only [a_var0, a_varS, a_c, a_asg, a_name, a_set0, a_setS, a_ret, a_retN, a_ifS, a_drop, a_next, a_op, a_un, a_I0, a_I, a_U, a_bT, a_test, a_B, a_and, a_or, a_not, a_andV, a_orV, a_notV, a_if, a_isN, a_notN, a_nil, a_cons, a_CB, a_lst, a_tup, a_dget, a_din, a_dnotin, a_dput, a_newK, a_revL, a_getN, a_putN, a_newN, a_forL, a_forT, a_forR, a_lcL, a_lcR, a_yes, a_w0, a_w1, cx_K, cx_P, cx_w, a_eqI, a_neI, a_eqS, a_neS, a_call, a_callS, a_clsFn, a_meth, a_make, a_fld, a_fldS, a_BM, a_BM0, a_sl, a_noP, a_part, a_intP, a_gTup, a_gNil, a_gCons, a_gSub, a_ipI, a_ipMul, a_aug, a_augS, a_chain, m_and, m_or, a_xp, cxh_K, a_veI, a_ost, a_mkK, a_nn, not_false_eq_true, not_true_eq_false, Option.map_some, Option.map_none, Option.isSome_some, Option.isSome_none, List.map_cons, List.map_nil, true_and, and_true, true_or, or_true, false_and, and_false, false_or, or_false, if_true, if_false, Bool.false_eq_true, decide_eq_true_eq, Bool.not_eq_true, Bool.not_true, Bool.not_false, decide_eq_false_iff_not, Bool.not_eq_eq_eq_not, reduceCtorEq, Bool.true_eq_false, List.cons_append, List.nil_append, List.append_nil])))
local macro_rules | `(tactic| walk_at "0") => `(tactic| (try simp only [a_var0, a_varS, a_c, a_asg, a_name, a_set0, a_setS, a_ret, a_retN, a_ifS, a_drop, a_next, a_op, a_un, a_I0, a_I, a_U, a_bT, a_test, a_B, a_and, a_or, a_not, a_andV, a_orV, a_notV, a_if, a_isN, a_notN, a_nil, a_cons, a_CB, a_lst, a_tup, a_dget, a_din, a_dnotin, a_dput, a_newK, a_revL, a_getN, a_putN, a_newN, a_forL, a_forT, a_forR, a_lcL, a_lcR, a_yes, a_w0, a_w1, cx_K, cx_P, cx_w, a_eqI, a_neI, a_eqS, a_neS, a_call, a_callS, a_clsFn, a_meth, a_make, a_fld, a_fldS, a_BM, a_BM0, a_sl, a_noP, a_part, a_intP, a_gTup, a_gNil, a_gCons, a_gSub, a_ipI, a_ipMul, a_aug, a_augS, a_chain, m_and, m_or, a_xp, cxh_K, a_veI, a_ost, a_mkK, a_nn, not_false_eq_true, not_true_eq_false, Option.map_some, Option.map_none, Option.isSome_some, Option.isSome_none, List.map_cons, List.map_nil, true_and, and_true, true_or, or_true, false_and, and_false, false_or, or_false, if_true, if_false, Bool.false_eq_true, decide_eq_true_eq, Bool.not_eq_true, Bool.not_true, Bool.not_false, decide_eq_false_iff_not, Bool.not_eq_eq_eq_not, reduceCtorEq, Bool.true_eq_false, List.cons_append, List.nil_append, List.append_nil]))
section
variable {P : Program} {w : World} {K : PySem.W.Frag} {mg : Str → Option Value} {base : Heap}
theorem sc_BadDay_init : FnScope ["self", "day"] ["self", "day"] (defScope s_BadDay_init) := ⟨rfl, rfl, rfl, by decide +kernel, rfl, by decide +kernel, by decide +kernel⟩
theorem st_BadDay_init (p0 p1 : V) : start ["self", "day"] [p0, p1] = [some p0, some p1] := rfl
theorem fn_BadDay_init (T : Txt K mg) {fd : FuncData} (F : FunD K "__init__" "BadDay.__init__" (defArgs s_BadDay_init) (defBody s_BadDay_init) (defScope s_BadDay_init) [] [] (ma K (ga K "BadDay") "__init__") fd) : FnOk P w K mg base CX0 1 (ma K (ga K "BadDay") "__init__") fd ["self", "day"] (spKeep (ga K "BadDay") "day") := by
  refine F.ok (CX := CX0) (k := 0) sc_BadDay_init (fun vs H Q E h => ?L) (fun cdv A outer s H vs Q E hr h => ?B)
  case L => first | (obtain ⟨_, rfl, _⟩ := h; rfl) | (obtain ⟨_, _, rfl, _⟩ := h; rfl) | (obtain ⟨_, _, _, rfl, _⟩ := h; rfl) | (obtain ⟨_, _, _, _, rfl, _⟩ := h; rfl) | (obtain ⟨_, _, _, _, _, rfl, _⟩ := h; rfl) | (obtain ⟨_, _, _, _, _, _, rfl, _⟩ := h; rfl) | (obtain ⟨_, _, _, _, _, _, _, rfl, _⟩ := h; rfl) | (obtain ⟨_, _, _, _, _, _, _, _, rfl, _⟩ := h; rfl) | (obtain ⟨_, _, _, _, _, _, _, _, _, rfl, _⟩ := h; rfl) | (obtain ⟨_, _, _, _, _, _, _, _, _, _, rfl, _⟩ := h; rfl) | (obtain ⟨_, _, _, _, _, _, _, _, _, _, _, rfl, _⟩ := h; rfl) | (obtain ⟨_, _, _, _, _, _, _, _, _, _, _, _, rfl, _⟩ := h; rfl) | (obtain ⟨_, _, _, _, _, _, _, _, _, _, _, _, _, rfl, _⟩ := h; rfl)
  case B =>
  refine ⟨_, PSs.nox ((pss_cons (ps_expr (pe_geinit rfl T.g_GardenError T.cvGE (pa_cons (pv 0) (pa_cons pe_str pa_nil))))
      (pss_one (ps_ost (pv 0) (pv 1) rfl)))), ?_⟩
  obtain ⟨a, v, rfl, ha, k⟩ := h
  rw [st_BadDay_init]
  walk_at "e"
  refine ⟨a, _, [.str _], rfl, by show 1 ≤ 1000; decide, T.oex, ha, ?_⟩
  walk_at "e"
  refine ⟨a, _, rfl, T.oex, T.noDay, .inl ⟨ha, fun dx h1 h2 => ?_⟩⟩
  exact k dx h1 h2
theorem fx_BadDay_init (T : Txt K mg) : Fx P w K mg base CX0 1 (ma K (ga K "BadDay") "__init__") ["self", "day"] (spKeep (ga K "BadDay") "day") := let ⟨fd, F⟩ := T.d_BadDay_init; ⟨fd, fn_BadDay_init T F, F.kp, F.bindsN fun _ _ _ _ _ _ us hl => match us, hl with | [_, _], _ => rfl⟩
theorem places_some {g : Gd} : ∀ {row : List PyData} {ws : List Nat}, row.map (placeOf g) = ws.map some → placesM g row = some ws
  | [], [], _ => rfl
  | d :: r, k :: ks, h => by
    obtain ⟨h1, h2⟩ := List.cons.inj (show placeOf g d :: r.map (placeOf g) = some k :: ks.map some from h)
    unfold placesM
    rw [h1, places_some h2]
  | [], _ :: _, h => by cases h
  | _ :: _, [], h => by cases h
theorem places_none {g : Gd} : ∀ {row : List PyData} {i : Nat} {d : PyData}, row[i]? = some d → placeOf g d = none → placesM g row = none
  | d :: r, 0, x, h, hn => by
    cases (show some d = some x from h)
    unfold placesM
    rw [hn]
  | d :: r, i + 1, x, h, hn => by
    have ih := places_none (row := r) (i := i) h hn
    unfold placesM
    rw [ih]
    cases placeOf g d <;> rfl
theorem places_lt {g : Gd} : ∀ {row : List PyData} {ws : List Nat}, placesM g row = some ws → ∀ k ∈ ws, k < g.pots.length
  | [], ws, h, k, hk => by
    cases (show some [] = some ws from h)
    cases hk
  | d :: r, ws, h, k, hk => by
    unfold placesM at h
    cases h1 : placeOf g d with
    | none => rw [h1] at h; cases h
    | some j =>
      cases h2 : placesM g r with
      | none => rw [h1, h2] at h; cases h
      | some js =>
        rw [h1, h2] at h
        cases h
        rcases List.mem_cons.mp hk with z | z
        · subst z
          cases d with
          | str s => exact nameIx_lt h1
          | _ => cases h1
        · exact places_lt h2 k z
theorem bor_nat (a b : Nat) : Builtin.bitOr ((a : Nat) : Int) ((b : Nat) : Int) = ((a ||| b : Nat) : Int) := by
  rw [Bits.bitOr_pp (Int.natCast_nonneg _) (Int.natCast_nonneg _)]
  rfl
theorem mask_snoc (ws : List Nat) (k : Nat) : maskOf (ws ++ [k]) = maskOf ws ||| 2 ^ k := by
  unfold maskOf
  rw [List.foldl_append]
  rfl
def BadE (K : PySem.W.Frag) (E : XK) (H : Hp) (day : Int) : Prop := ∀ H' dd, Ex H H' → H' dd = some (.xd [("day", .int day)]) → E (.ref (ga K "BadDay")) (some dd) H'
def spChosen (K : PySem.W.Frag) : Sp := fun vs H Q E => ∃ (a l d : Addr) (ps : List V) (g : Gd) (v : V) (row : List PyData) (day : Int), vs = [.ref a, v, .int day] ∧ GdIn K H a l d ps g ∧ g.Ok ∧ Dq H v (.list row) ∧ RowD row ∧
  (∀ ws, placesM g row = some ws → nodupB ws = true → ∀ H', Ex H H' → Q (.int ((maskOf ws : Nat))) H') ∧
  (∀ ws, placesM g row = some ws → nodupB ws = false → BadE K E H day) ∧ (placesM g row = none → ∀ H', Ex H H' → E (.ref (ga K "NoPot")) none H')
theorem sc_chosen_by : FnScope ["garden", "names", "day", "bits", "places", "place", "name"] ["garden", "names", "day"] (defScope s_chosen_by) := ⟨rfl, rfl, rfl, by decide +kernel, rfl, by decide +kernel, by decide +kernel⟩
theorem st_chosen_by (p0 p1 p2 : V) : start ["garden", "names", "day", "bits", "places", "place", "name"] [p0, p1, p2] = [some p0, some p1, some p2, none, none, none, none] := rfl
theorem fn_chosen_by (T : Txt K mg) {fd : FuncData} (F : FunD K "chosen_by" "chosen_by" (defArgs s_chosen_by) (defBody s_chosen_by) (defScope s_chosen_by) [V.int 0] [] (ga K "chosen_by") fd) : FnOk P w K mg base (L2.CX P w) 3 (ga K "chosen_by") fd ["garden", "names", "day"] (spChosen K) := by
  refine F.ok (CX := (L2.CX P w)) (k := 2) sc_chosen_by (fun vs H Q E h => ?L) (fun cdv A outer s H vs Q E hr h => ?B)
  case L => first | (obtain ⟨_, rfl, _⟩ := h; rfl) | (obtain ⟨_, _, rfl, _⟩ := h; rfl) | (obtain ⟨_, _, _, rfl, _⟩ := h; rfl) | (obtain ⟨_, _, _, _, rfl, _⟩ := h; rfl) | (obtain ⟨_, _, _, _, _, rfl, _⟩ := h; rfl) | (obtain ⟨_, _, _, _, _, _, rfl, _⟩ := h; rfl) | (obtain ⟨_, _, _, _, _, _, _, rfl, _⟩ := h; rfl) | (obtain ⟨_, _, _, _, _, _, _, _, rfl, _⟩ := h; rfl) | (obtain ⟨_, _, _, _, _, _, _, _, _, rfl, _⟩ := h; rfl) | (obtain ⟨_, _, _, _, _, _, _, _, _, _, rfl, _⟩ := h; rfl) | (obtain ⟨_, _, _, _, _, _, _, _, _, _, _, rfl, _⟩ := h; rfl) | (obtain ⟨_, _, _, _, _, _, _, _, _, _, _, _, rfl, _⟩ := h; rfl) | (obtain ⟨_, _, _, _, _, _, _, _, _, _, _, _, _, rfl, _⟩ := h; rfl)
  case B =>
  refine ⟨_, ((pss_cons (ps_set (i := 3) sc_chosen_by.nd rfl (Or.inl rfl) pe_int)
      (pss_cons (ps_setLcX (i := 4) (own := [("name", 6)]) (g := gName 6) (te := (tMeth _ "place" _ [] _ (tVar 0) (tCons (tVar 6) tNil))) rfl rfl (takes_of rfl rfl rfl rfl) rfl sc_chosen_by.nd rfl rfl (sw_true rfl rfl rfl (by decide +kernel)) (pi_list (pv 1)) (blkOk_by (own := [("name", 6)]) (N := ["garden", "names", "day", "bits", "places", "place", "name"]) (sc := defScope s_chosen_by) (by decide +kernel)) (fun _ _ _ _ _ _ => (pg_name (i := 6) sc_chosen_by.nd rfl (Or.inl rfl))) (fun _ _ _ _ _ _ hpass => (pe_mt (pv 0) (ok_Garden_place T) (hr.mono (by decide)) hpass (pa_cons (pv 6) pa_nil))))
      (pss_cons (ps_for (passes_of rfl) rfl (pi_list (pv 4)) (pg_name (i := 5) sc_chosen_by.nd rfl (Or.inl rfl))
      (pss_cons (ps_if (pt_cmpR op_eq (pe_op op_and (pe_op op_shr (pv 3) (pv 5)) pe_int) pe_int (nomark _)) (pss_one (ps_raise rfl (takes_of rfl rfl rfl rfl) (mk_bad T (fx_BadDay_init T) (hr.mono (by decide)) rfl (pv 2))))
      pss_nil)
      (pss_one (ps_set (i := 3) sc_chosen_by.nd rfl (Or.inl rfl) (pe_op op_or (pv 3) (pe_op op_shl pe_int (pv 5)))))))
      (pss_one (ps_ret (pv 3))))))), ?_⟩
  obtain ⟨a, l, d, ps, g, v, row, day, rfl, hG, ok, hv, hrow, kS, kB, kN⟩ := h
  rw [st_chosen_by]
  walk_at "e"
  cases hv with
  | lst hl hall =>
  rename_i ra vs
  refine s_lcL hl (fun i acc H1 => ∃ ws : List Nat, acc = ws.map (fun (k : Nat) => V.int k) ∧ (row.take i).map (placeOf g) = ws.map some) ⟨[], rfl, rfl⟩ ?_ ?_
  · rintro i x acc D H1 hD hx h1 h2 e ⟨ws, rfl, hws⟩
    obtain ⟨x', hx', hdq⟩ := hall.at_ hx
    have hi := (List.getElem?_eq_some_iff.mp hx').1
    have e1 : Ex H H1 := e.trans ex_del
    have hr1 := hrow.1
    walk_at "e"
    refine g_rcv hG e1 (by decide +kernel) (by decide +kernel) (by decide +kernel) (by decide +kernel) (by decide +kernel) ?_
    refine ⟨a, l, d, ps, g, x, x', rfl, hG.mono e1, ok, hdq.mono e1 _, hrow.2 x' (List.mem_of_getElem? hx'), fun k0 hk => ?_, fun hn => kN (places_none hx' hn) H1 e1⟩
    exact lc_y (by omega) h1 h2 e (Ex.refl _) ⟨ws ++ [k0], by rw [List.map_append]; rfl, by rw [take_succ hx', List.map_append, List.map_append, hws]; simp [hk]⟩
  · rintro D H1 acc hD h1 h2 e ⟨ws, rfl, hws⟩
    rw [hall.len, List.take_length] at hws
    have hp := places_some hws
    have hlt := places_lt hp
    have hn3 := ok.n3
    have e1 : Ex H H1 := e.trans ex_del
    refine s_forL h1 (fun i σ H2 => ∃ v5, σ = [some (.ref a), some (.ref ra), some (.int day), some (.int ((maskOf (ws.take i) : Nat))), some (.ref D), v5, none] ∧ H2 = H1 ∧ (ws.take i).Nodup) ⟨none, rfl, rfl, List.nodup_nil⟩ (fun i σ H2 _ ⟨_, _, z, _⟩ => by rw [z]; exact h1) ?_ ?_
    · rintro N i x σ H2 hx ⟨v5, rfl, rfl, hnd⟩ hN
      rw [List.getElem?_map] at hx
      obtain ⟨k0, hk0, rfl⟩ := Option.map_eq_some_iff.mp hx
      have hkn := hlt k0 (List.mem_of_getElem? hk0)
      have htk := take_succ hk0
      walk_at "e"
      refine ⟨by omega, ?_⟩
      by_cases hb : (maskOf (ws.take i)).testBit k0 = true
      · rw [if_pos ((bit1 _ _).mpr hb)]
        rw [mask_bit] at hb
        have hm := of_decide_eq_true hb
        have hnn : nodupB ws = false := by
          cases q : nodupB ws with
          | false => rfl
          | true =>
            have n1 := (nodupB_iff ws).mp q
            have n2 : (ws.take (i + 1)).Nodup := n1.sublist (List.take_sublist _ _)
            rw [htk, List.nodup_append] at n2
            exact absurd rfl (n2.2.2 k0 hm k0 (by simp))
        intro dd hdd
        exact kB ws hp hnn _ _ (e1.trans (Ex.new hdd)) upd_same
      · rw [if_neg (fun q => hb ((bit1 _ _).mp q))]
        rw [mask_bit] at hb
        have hm : k0 ∉ ws.take i := fun z => hb (decide_eq_true z)
        refine ⟨⟨by omega, by omega, by decide⟩, hN _ _ ⟨some (.int (k0 : Nat)), ?_, rfl, ?_⟩⟩
        · rw [shl_n, bor_nat, htk, mask_snoc]
        · rw [htk, List.nodup_append]
          exact ⟨hnd, by simp, fun x hx y hy => by
            have : y = k0 := by simpa using hy
            rw [this]
            exact fun z => hm (by rw [← z]; exact hx)⟩
    · rintro σ H2 ⟨v5, rfl, rfl, hnd⟩
      rw [List.length_map, List.take_length] at *
      walk_at "e"
      exact kS ws hp ((nodupB_iff ws).mpr hnd) _ e1
theorem ok_chosen_by_3 (T : Txt K mg) : Df P w K mg base (L2.CX P w) 3 "chosen_by" ["garden", "names", "day"] [] (spChosen K) := let ⟨fd, F⟩ := T.d_chosen_by; mk_dfD (ds := []) F (fn_chosen_by T F) T.g_chosen_by (F.binds1 3 1 (fun z => nomatch z) rfl (fun _ _ _ _ _ _ _ us its h1 h2 => match us, its, h1, h2 with | [_, _, _], [_], _, _ => ⟨_, rfl, rfl⟩))
def OutP (K : PySem.W.Frag) (E : XK) (Q : VK) (H : Hp) : Out → Prop
  | .none _ => ∀ H', Ex H H' → E (.ref (ga K "NoPot")) none H'
  | .bad d => BadE K E H d
  | .dry d n => ∀ t H', Ex H H' → H' t = some (.tup [.bl false, .int d, .str n]) → Q (.ref t) H'
  | .kept st => ∀ t v H', Ex H H' → H' t = some (.tup [.bl true, v]) → StA H' v st → Q (.ref t) H'
theorem OutP.mono {K : PySem.W.Frag} {E : XK} {Q : VK} {H H' : Hp} (e : Ex H H') {o : Out} (h : OutP K E Q H o) : OutP K E Q H' o := by
  cases o with
  | none d => exact fun H2 e2 => h H2 (e.trans e2)
  | bad d => exact fun H2 dd e2 => h H2 dd (e.trans e2)
  | dry d n => exact fun t H2 e2 => h t H2 (e.trans e2)
  | kept st => exact fun t v H2 e2 => h t v H2 (e.trans e2)
def spFollowed (K : PySem.W.Frag) : Sp := fun vs H Q E => ∃ (a l d : Addr) (ps : List V) (g : Gd) (rv sv : V) (rows : List (List PyData)) (st : Stt) (first : Int), vs = [.ref a, rv, sv, .int first] ∧ GdIn K H a l d ps g ∧ g.Ok ∧ Dq H rv (.list (rows.map .list)) ∧ RowsD rows ∧
  StA H sv st ∧ StOk g st ∧ OutP K E Q H (walkM g rows st first)
theorem sc_followed : FnScope ["garden", "rows", "state", "first", "k", "chosen", "ahead"] ["garden", "rows", "state", "first"] (defScope s_followed) := ⟨rfl, rfl, rfl, by decide +kernel, rfl, by decide +kernel, by decide +kernel⟩
theorem st_followed (p0 p1 p2 p3 : V) : start ["garden", "rows", "state", "first", "k", "chosen", "ahead"] [p0, p1, p2, p3] = [some p0, some p1, some p2, some p3, none, none, none] := rfl
theorem fn_followed (T : Txt K mg) {fd : FuncData} (F : FunD K "followed" "followed" (defArgs s_followed) (defBody s_followed) (defScope s_followed) [V.int 0] [] (ga K "followed") fd) : FnOk P w K mg base (L2.CX P w) 4 (ga K "followed") fd ["garden", "rows", "state", "first"] (spFollowed K) := by
  refine F.ok (CX := (L2.CX P w)) (k := 3) sc_followed (fun vs H Q E h => ?L) (fun cdv A outer s H vs Q E hr h => ?B)
  case L => first | (obtain ⟨_, rfl, _⟩ := h; rfl) | (obtain ⟨_, _, rfl, _⟩ := h; rfl) | (obtain ⟨_, _, _, rfl, _⟩ := h; rfl) | (obtain ⟨_, _, _, _, rfl, _⟩ := h; rfl) | (obtain ⟨_, _, _, _, _, rfl, _⟩ := h; rfl) | (obtain ⟨_, _, _, _, _, _, rfl, _⟩ := h; rfl) | (obtain ⟨_, _, _, _, _, _, _, rfl, _⟩ := h; rfl) | (obtain ⟨_, _, _, _, _, _, _, _, rfl, _⟩ := h; rfl) | (obtain ⟨_, _, _, _, _, _, _, _, _, rfl, _⟩ := h; rfl) | (obtain ⟨_, _, _, _, _, _, _, _, _, _, rfl, _⟩ := h; rfl) | (obtain ⟨_, _, _, _, _, _, _, _, _, _, _, rfl, _⟩ := h; rfl) | (obtain ⟨_, _, _, _, _, _, _, _, _, _, _, _, rfl, _⟩ := h; rfl) | (obtain ⟨_, _, _, _, _, _, _, _, _, _, _, _, _, rfl, _⟩ := h; rfl)
  case B =>
  refine ⟨_, ((pss_cons (ps_expr (pe_mt (pv 0) (ok_Garden_number T) (hr.mono (by decide)) pass0 (pa_cons (pv 2) pa_nil)))
      (pss_cons (ps_for (passes_of rfl) rfl (pi_range1 rfl T.f_range (pa_cons (pe_callB call_lenQ (by rfl) T.f_len (by decide +kernel) (pa_cons (pv 1) pa_nil)) pa_nil)) (pg_name (i := 4) sc_followed.nd rfl (Or.inl rfl))
      (pss_cons (ps_set (i := 5) sc_followed.nd rfl (Or.inl rfl) (pe_df (ok_chosen_by_3 T) (hr.mono (by decide)) rfl (passes_call (takes_of rfl rfl rfl rfl) (fun _ _ _ _ h => h)) (pa_cons (pv 0) (pa_cons (pe_ix ix_list (pv 1) (pv 4) (fun _ _ => rfl)) (pa_cons (pe_op op_add (pv 3) (pv 4)) pa_nil)))))
      (pss_cons (ps_if (pt_not (pt_val (pe_df (ok_allowed T) (hr.mono (by decide)) rfl pass0 (pa_cons (pv 0) (pa_cons (pv 2) (pa_cons (pv 5) pa_nil)))))) (pss_one (ps_raise rfl (takes_of rfl rfl rfl rfl) (mk_bad T (fx_BadDay_init T) (hr.mono (by decide)) rfl (pe_op op_add (pv 3) (pv 4)))))
      pss_nil)
      (pss_cons (ps_set (i := 6) sc_followed.nd rfl (Or.inl rfl) (pe_df (ok_behind T) (hr.mono (by decide)) rfl pass0 (pa_cons (pv 0) (pa_cons (pv 2) (pa_cons (pv 5) pa_nil)))))
      (pss_cons (ps_if (pt_cmpR op_isN (pv 6) pe_non (nomark _)) (pss_one (ps_ret (pe_tup (pa_cons pe_bl (pa_cons (pe_op op_add (pv 3) (pv 4)) (pa_cons (pe_df (ok_dry_pot T) (hr.mono (by decide)) rfl pass0 (pa_cons (pv 0) (pa_cons (pv 2) (pa_cons (pv 5) pa_nil)))) pa_nil))))))
      pss_nil)
      (pss_one (ps_set (i := 2) sc_followed.nd rfl (Or.inl rfl) (pv 6))))))))
      (pss_one (ps_ret (pe_tup (pa_cons pe_bl (pa_cons (pv 2) pa_nil)))))))), ?_⟩
  obtain ⟨a, l, d, ps, g, rv, sv, rows, st, first, rfl, hG, ok, hrv, hrows, hst, hs, hO⟩ := h
  rw [st_followed]
  cases hrv with
  | lst hl hall =>
  rename_i ra vs
  walk_at "e"
  refine g_rcv hG (Ex.refl _) (by decide +kernel) (by decide +kernel) (by decide +kernel) (by decide +kernel) (by decide +kernel) ?_
  refine ⟨a, l, d, ps, g, sv, st, rfl, hG, ok, hst, hs, ?_⟩
  walk_at "e"
  refine s_lenL hl ?_
  walk_at "e"
  have hlen : vs.length = rows.length := by rw [hall.len, List.length_map]
  have hrl := hrows.1
  refine s_forR (by omega) (fun i σ H1 => ∃ sv' st' v4 v5 v6, σ = [some (.ref a), some (.ref ra), some sv', some (.int first), v4, v5, v6] ∧ Ex H H1 ∧ StA H1 sv' st' ∧ StOk g st' ∧ OutP K E Q H (walkM g (rows.drop i) st' (first + (i : Nat))))
    ⟨sv, st, none, none, none, rfl, Ex.refl _, hst, hs, by simpa using hO⟩ ?_ ?_
  · rintro N i σ H1 hi ⟨sv', st', v4, v5, v6, rfl, e, hst', hs', hO'⟩ hN
    obtain ⟨row, hrow⟩ : ∃ row, rows[i]? = some row := ⟨_, List.getElem?_eq_getElem (by omega)⟩
    rw [walk_drop hrow] at hO'
    obtain ⟨v, hv, hdv⟩ := hall.of_at (k := i) (d := .list row) (by rw [List.getElem?_map, hrow]; rfl)
    have hRow := hrows.2 row (List.mem_of_getElem? hrow)
    walk_at "e"
    refine s_ixL (e _ _ hl) (at_nat hv) ?_
    walk_at "e"
    refine ⟨a, l, d, ps, g, v, row, first + (i : Nat), rfl, hG.mono e, ok, hdv.mono e _, hRow, fun ws hp hnd H2 e2 => ?_, fun ws hp hnd => ?_, fun hp H2 e2 => ?_⟩
    · have en := (nodupB_iff ws).mp hnd
      have hlt := places_lt hp
      have ew : wB (maskOf ws) = wetOf ws := mask_fun ws
      have el := mask_len en
      have hday : dayM g st' row = stepM g st' ws := by unfold dayM; rw [hp]
      rw [hday] at hO'
      unfold stepM at hO'
      rw [if_neg (by rw [hnd]; decide)] at hO'
      have e12 := e.trans e2
      walk_at "e"
      refine ⟨a, l, d, ps, g, sv', st', maskOf ws, rfl, hG.mono e12, ok, hst'.mono e2, hs', mask_lt hlt, fun H3 e3 => ?_⟩
      walk_at "e"
      rw [ew, el]
      have e13 := e12.trans e3
      cases hal : allowedM g st' (wetOf ws) ws.length with
      | false =>
        rw [hal, if_pos rfl] at hO'
        walk_at "e"
        intro dd hdd
        exact hO' _ _ (e13.trans (Ex.new hdd)) upd_same
      | true =>
        rw [hal, if_neg (by decide)] at hO'
        walk_at "e"
        refine ⟨a, l, d, ps, g, sv', st', maskOf ws, rfl, hG.mono e13, ok, hst'.mono (e2.trans e3), hs', fun j hj H4 e4 => ?_, fun hj v' H4 e4 hv' => ?_⟩
        · rw [ew] at hj
          rw [hj] at hO'
          walk_at "e"
          have e14 := e13.trans e4
          refine ⟨a, l, d, ps, g, sv', st', maskOf ws, j, rfl, hG.mono e14, ok, hst'.mono ((e2.trans e3).trans e4), hs', by rw [ew]; exact hj, ?_⟩
          walk_at "e"
          refine s_nwT (by show 3 ≤ 100000; decide) fun t ht => ?_
          exact hO' t _ (e14.trans (Ex.new ht)) upd_same
        · rw [ew] at hj
          rw [hj] at hO'
          rw [ew] at hv'
          obtain ⟨z1, z2, rfl, hz1, hz2⟩ := id hv'
          walk_at "e"
          have e14 := e13.trans e4
          refine hN _ _ ⟨.ref z1, _, _, _, _, rfl, e14, hv', next_ok ok hs' hj, ?_⟩
          have : first + ((i + 1 : Nat) : Int) = first + (i : Nat) + 1 := by omega
          rw [this]
          exact hO'
    · have hday : dayM g st' row = .bad := by
        unfold dayM
        rw [hp]
        show stepM g st' ws = .bad
        unfold stepM
        rw [if_pos hnd]
      rw [hday] at hO'
      exact fun H2 dd e2 => hO' H2 dd (e.trans e2)
    · have hday : dayM g st' row = .none := by
        unfold dayM
        rw [hp]
      rw [hday] at hO'
      exact hO' H2 (e.trans e2)
  · rintro σ H1 ⟨sv', st', v4, v5, v6, rfl, e, hst', hs', hO'⟩
    rw [hlen, List.drop_length] at hO'
    walk_at "e"
    refine s_nwT (by show 2 ≤ 100000; decide) fun t ht => ?_
    exact hO' t sv' _ (e.trans (Ex.new ht)) upd_same (hst'.mono (Ex.new ht))
theorem ok_followed_3 (T : Txt K mg) : Df P w K mg base (L2.CX P w) 4 "followed" ["garden", "rows", "state", "first"] [V.int 0] (spFollowed K) := let ⟨fd, F⟩ := T.d_followed; mk_dfD (ds := [V.int 0]) F (fn_followed T F) T.g_followed (F.binds1 3 0 (fun z => nomatch z) rfl (fun _ _ _ _ _ _ _ us its h1 h2 => match us, its, h1, h2 with | [_, _, _], [_], _, _ => ⟨_, rfl, rfl⟩))
theorem ok_followed_4 (T : Txt K mg) : Df P w K mg base (L2.CX P w) 4 "followed" ["garden", "rows", "state", "first"] [] (spFollowed K) := let ⟨fd, F⟩ := T.d_followed; mk_dfD (ds := []) F (fn_followed T F) T.g_followed (F.binds1 4 1 (fun z => nomatch z) rfl (fun _ _ _ _ _ _ _ us its h1 h2 => match us, its, h1, h2 with | [_, _, _, _], [_], _, _ => ⟨_, rfl, rfl⟩))
def spKept (K : PySem.W.Frag) : Sp := fun vs H Q E => ∃ (a l d : Addr) (ps : List V) (g : Gd) (rv : V) (rows : List (List PyData)), vs = [.ref a, rv] ∧ GdIn K H a l d ps g ∧ g.Ok ∧ Dq H rv (.list (rows.map .list)) ∧ RowsD rows ∧ OutP K E Q H (walkM g rows (freshS g) 0)
theorem sc_kept : FnScope ["garden", "rows"] ["garden", "rows"] (defScope s_kept) := ⟨rfl, rfl, rfl, by decide +kernel, rfl, by decide +kernel, by decide +kernel⟩
theorem st_kept (p0 p1 : V) : start ["garden", "rows"] [p0, p1] = [some p0, some p1] := rfl
theorem fn_kept (T : Txt K mg) {fd : FuncData} (F : FunD K "kept" "kept" (defArgs s_kept) (defBody s_kept) (defScope s_kept) [] [] (ga K "kept") fd) : FnOk P w K mg base (L2.CX P w) 5 (ga K "kept") fd ["garden", "rows"] (spKept K) := by
  refine F.ok (CX := (L2.CX P w)) (k := 4) sc_kept (fun vs H Q E h => ?L) (fun cdv A outer s H vs Q E hr h => ?B)
  case L => first | (obtain ⟨_, rfl, _⟩ := h; rfl) | (obtain ⟨_, _, rfl, _⟩ := h; rfl) | (obtain ⟨_, _, _, rfl, _⟩ := h; rfl) | (obtain ⟨_, _, _, _, rfl, _⟩ := h; rfl) | (obtain ⟨_, _, _, _, _, rfl, _⟩ := h; rfl) | (obtain ⟨_, _, _, _, _, _, rfl, _⟩ := h; rfl) | (obtain ⟨_, _, _, _, _, _, _, rfl, _⟩ := h; rfl) | (obtain ⟨_, _, _, _, _, _, _, _, rfl, _⟩ := h; rfl) | (obtain ⟨_, _, _, _, _, _, _, _, _, rfl, _⟩ := h; rfl) | (obtain ⟨_, _, _, _, _, _, _, _, _, _, rfl, _⟩ := h; rfl) | (obtain ⟨_, _, _, _, _, _, _, _, _, _, _, rfl, _⟩ := h; rfl) | (obtain ⟨_, _, _, _, _, _, _, _, _, _, _, _, rfl, _⟩ := h; rfl) | (obtain ⟨_, _, _, _, _, _, _, _, _, _, _, _, _, rfl, _⟩ := h; rfl)
  case B =>
  refine ⟨_, ((pss_one (ps_ret (pe_df (ok_followed_3 T) (hr.mono (by decide)) rfl (passes_call (takes_of rfl rfl rfl rfl) (fun _ _ _ _ h => h)) (pa_cons (pv 0) (pa_cons (pv 1) (pa_cons (pe_mt0 (pv 0) (ok_Garden_fresh T) (hr.mono (by decide)) pass0) pa_nil))))))), ?_⟩
  obtain ⟨a, l, d, ps, g, rv, rows, rfl, hG, ok, hrv, hrows, hO⟩ := h
  rw [st_kept]
  walk_at "e"
  have hn3 := ok.n3
  refine g_rcv hG (Ex.refl _) (by decide +kernel) (by decide +kernel) (by decide +kernel) (by decide +kernel) (by decide +kernel) ?_
  refine ⟨a, l, d, ps, g, rfl, hG, hn3, fun v H1 hv e => ?_⟩
  walk_at "e"
  exact ⟨a, l, d, ps, g, rv, v, rows, _, 0, rfl, hG.mono e, ok, hrv.mono e _, hrows, hv, fresh_ok ok, hO.mono e⟩
theorem ok_kept (T : Txt K mg) : Df P w K mg base (L2.CX P w) 5 "kept" ["garden", "rows"] [] (spKept K) := let ⟨fd, F⟩ := T.d_kept; mk_df F (fn_kept T F) T.g_kept (F.bindsN fun _ _ _ _ _ _ us hl => match us, hl with | [_, _], _ => rfl)
def ResP (K : PySem.W.Frag) (E : XK) (Q : VK) (H : Hp) : Res → Prop
  | .none _ => ∀ H', Ex H H' → E (.ref (ga K "NoPot")) none H'
  | .bad d => BadE K E H d
  | .dry d n => ∀ t H', Ex H H' → H' t = some (.tup [.bl false, .int d, .str n]) → Q (.ref t) H'
  | .ever k => ∀ t H', Ex H H' → H' t = some (.tup [.bl true, .int k]) → Q (.ref t) H'
/-- what met holds: the states met, each with its place -/
def metEs (es : Ens) (met : List Stt) : Prop := es.map (·.1) = met ∧ ∀ (i : Nat) (e : Stt × Addr × V), es[i]? = some e → e.2.2 = .int (i : Nat)
theorem look_none {es : Ens} {st : Stt} (h : st ∉ es.map (·.1)) : lookS es st = none := by
  unfold lookS
  rw [List.find?_eq_none.mpr fun e he => by
    have : e.1 ≠ st := fun z => h (by rw [← z]; exact List.mem_map_of_mem he)
    simpa using this]
  rfl
theorem look_met : ∀ {es : Ens} {st : Stt} (n : Nat), (∀ (i : Nat) (e : Stt × Addr × V), es[i]? = some e → e.2.2 = .int ((n + i : Nat) : Int)) → st ∈ es.map (·.1) → lookS es st = some (.int ((n + (es.map (·.1)).idxOf st : Nat) : Int))
  | [], _, _, _, h => by cases h
  | e :: es, st, n, hv, h => by
    by_cases q : e.1 = st
    · have h0 := hv 0 e rfl
      have : (List.map (·.1) (e :: es)).idxOf st = 0 := by
        rw [List.map_cons, q, List.idxOf_cons_self]
      rw [this]
      unfold lookS
      rw [List.find?_cons, decide_eq_true q]
      exact congrArg some h0
    · have hm : st ∈ es.map (·.1) := by
        rcases List.mem_cons.mp (show st ∈ e.1 :: es.map (·.1) from h) with z | z
        · exact absurd z.symm q
        · exact z
      have ih := look_met (es := es) (st := st) (n + 1) (fun i e' he => by
        have := hv (i + 1) e' he
        rw [this, show n + (i + 1) = n + 1 + i by omega]) hm
      have e2 : (List.map (·.1) (e :: es)).idxOf st = (es.map (·.1)).idxOf st + 1 := by
        have qb : (e.1 == st) = false := by simpa using q
        rw [List.map_cons, List.idxOf_cons, qb]
        rfl
      rw [e2]
      have e3 : lookS (e :: es) st = lookS es st := by
        unfold lookS
        rw [List.find?_cons, decide_eq_false q]
      rw [e3, ih, show n + 1 + (es.map (·.1)).idxOf st = n + ((es.map (·.1)).idxOf st + 1) by omega]
/-- the tuple that followed has handed back -/
def ToldAt (H : Hp) (t : Addr) : Out → Prop
  | .dry d n => H t = some (.tup [.bl false, .int d, .str n])
  | .kept st => ∃ v, H t = some (.tup [.bl true, v]) ∧ StA H v st
  | _ => False
theorem ToldAt.mono {H H' : Hp} (e : Ex H H') {t : Addr} {o : Out} (h : ToldAt H t o) : ToldAt H' t o := by
  cases o with
  | none d => exact h
  | bad d => exact h
  | dry d n => exact e _ _ h
  | kept st => exact let ⟨v, h1, h2⟩ := h; ⟨v, e _ _ h1, h2.mono e⟩
theorem told_del {P : Program} {w : World} {H : Hp} {t M : Addr} {o : Out} {es : Ens} (h : ToldAt H t o) (hM : H M = some (DN P w M es)) : ToldAt (del H M) t o := by
  have key : ∀ (b : Addr) (xs : List V), H b = some (.tup xs) → del H M b = some (.tup xs) := fun b xs hb => by
    rw [del_ne (fun q => by rw [q, hM] at hb; cases hb)]
    exact hb
  cases o with
  | none d => exact h
  | bad d => exact h
  | dry d n => exact key _ _ h
  | kept st => exact let ⟨v, h1, z1, z2, h2, h3, h4⟩ := h; ⟨v, key _ _ h1, z1, z2, h2, key _ _ h3, key _ _ h4⟩
theorem OutP.of {K : PySem.W.Frag} {E : XK} {Q : VK} {H : Hp} {o : Out} (hn : ∀ d, o = .none d → ∀ H', Ex H H' → E (.ref (ga K "NoPot")) none H') (hb : ∀ d, o = .bad d → BadE K E H d) (ht : ∀ t H', Ex H H' → ToldAt H' t o → Q (.ref t) H') : OutP K E Q H o := by
  cases o with
  | none d => exact hn d rfl
  | bad d => exact hb d rfl
  | dry d n => exact fun t H' e h => ht t H' e h
  | kept st => exact fun t v H' e h hs => ht t H' e ⟨v, h, hs⟩
theorem KeysAt.mono {H H' : Hp} {es : Ens} (e : Ex H H') (h : KeysAt H es) : KeysAt H' es := fun x hx => (h x hx).mono e
def spForEver (K : PySem.W.Frag) : Sp := fun vs H Q E => ∃ (a l d : Addr) (ps : List V) (g : Gd) (lv rv : V) (lead rows : List (List PyData)) (r : Res), vs = [.ref a, lv, rv] ∧ GdIn K H a l d ps g ∧ g.Ok ∧ Dq H lv (.list (lead.map .list)) ∧ RowsD lead ∧
  Dq H rv (.list (rows.map .list)) ∧ RowsD rows ∧ keptM g lead rows = some r ∧ ResP K E Q H r
theorem sc_kept_for_ever : FnScope ["garden", "lead", "rows", "told", "met", "at"] ["garden", "lead", "rows"] (defScope s_kept_for_ever) := ⟨rfl, rfl, rfl, by decide +kernel, rfl, by decide +kernel, by decide +kernel⟩
theorem st_kept_for_ever (p0 p1 p2 : V) : start ["garden", "lead", "rows", "told", "met", "at"] [p0, p1, p2] = [some p0, some p1, some p2, none, none, none] := rfl
theorem fn_kept_for_ever (T : Txt K mg) {fd : FuncData} (F : FunD K "kept_for_ever" "kept_for_ever" (defArgs s_kept_for_ever) (defBody s_kept_for_ever) (defScope s_kept_for_ever) [] [] (ga K "kept_for_ever") fd) : FnOk P w K mg base (L2.CX P w) 6 (ga K "kept_for_ever") fd ["garden", "lead", "rows"] (spForEver K) := by
  refine F.ok (CX := (L2.CX P w)) (k := 5) sc_kept_for_ever (fun vs H Q E h => ?L) (fun cdv A outer s H vs Q E hr h => ?B)
  case L => first | (obtain ⟨_, rfl, _⟩ := h; rfl) | (obtain ⟨_, _, rfl, _⟩ := h; rfl) | (obtain ⟨_, _, _, rfl, _⟩ := h; rfl) | (obtain ⟨_, _, _, _, rfl, _⟩ := h; rfl) | (obtain ⟨_, _, _, _, _, rfl, _⟩ := h; rfl) | (obtain ⟨_, _, _, _, _, _, rfl, _⟩ := h; rfl) | (obtain ⟨_, _, _, _, _, _, _, rfl, _⟩ := h; rfl) | (obtain ⟨_, _, _, _, _, _, _, _, rfl, _⟩ := h; rfl) | (obtain ⟨_, _, _, _, _, _, _, _, _, rfl, _⟩ := h; rfl) | (obtain ⟨_, _, _, _, _, _, _, _, _, _, rfl, _⟩ := h; rfl) | (obtain ⟨_, _, _, _, _, _, _, _, _, _, _, rfl, _⟩ := h; rfl) | (obtain ⟨_, _, _, _, _, _, _, _, _, _, _, _, rfl, _⟩ := h; rfl) | (obtain ⟨_, _, _, _, _, _, _, _, _, _, _, _, _, rfl, _⟩ := h; rfl)
  case B =>
  refine ⟨_, ((pss_cons (ps_set (i := 3) sc_kept_for_ever.nd rfl (Or.inl rfl) (pe_df (ok_kept T) (hr.mono (by decide)) rfl (passes_call (takes_of rfl rfl rfl rfl) (fun _ _ _ _ h => h)) (pa_cons (pv 0) (pa_cons (pv 1) pa_nil))))
      (pss_cons (ps_if (pt_cmpR (op_eqD (hu_64 hr)) (pv 2) (pe_lst pa_nil) (nomark _)) (pss_one (ps_raise rfl (takes_of rfl rfl rfl rfl) (mk_bad T (fx_BadDay_init T) (hr.mono (by decide)) rfl (pe_callB call_lenQ (by rfl) T.f_len (by decide +kernel) (pa_cons (pv 1) pa_nil)))))
      pss_nil)
      (pss_cons (ps_set (i := 4) sc_kept_for_ever.nd rfl (Or.inl rfl) pe_dnewN)
      (pss_cons (ps_set (i := 5) sc_kept_for_ever.nd rfl (Or.inl rfl) (pe_callB call_lenQ (by rfl) T.f_len (by decide +kernel) (pa_cons (pv 1) pa_nil)))
      (pss_cons (ps_while (passes_of rfl) (PW.pt (pw_and (pt_val (pe_ix ix_tup (pv 3) pe_int (fun _ _ => rfl))) (pw_and1 (pt_cmpR (op_notInN (hu_9 hr)) (pe_ix ix_tup (pv 3) pe_int (fun _ _ => rfl)) (pv 4) (by rfl)))))
      (pss_cons (ps_putN (hu_9 hr) (pv 4) (pe_ix ix_tup (pv 3) pe_int (fun _ _ => rfl)) (pe_callB call_lenN (by rfl) T.f_len (by decide +kernel) (pa_cons (pv 4) pa_nil)))
      (pss_cons (ps_set (i := 3) sc_kept_for_ever.nd rfl (Or.inl rfl) (pe_df (ok_followed_4 T) (hr.mono (by decide)) rfl (passes_call (takes_of rfl rfl rfl rfl) (fun _ _ _ _ h => h)) (pa_cons (pv 0) (pa_cons (pv 2) (pa_cons (pe_ix ix_tup (pv 3) pe_int (fun _ _ => rfl)) (pa_cons (pv 5) pa_nil))))))
      (pss_one (ps_aug (i := 5) sc_kept_for_ever.nd rfl (Or.inl rfl) (pe_callB call_lenQ (by rfl) T.f_len (by decide +kernel) (pa_cons (pv 2) pa_nil)) ip_add)))))
      (pss_cons (ps_if (pt_not (pt_val (pe_ix ix_tup (pv 3) pe_int (fun _ _ => rfl)))) (pss_one (ps_ret (pv 3)))
      pss_nil)
      (pss_one (ps_ret (pe_tup (pa_cons pe_bl (pa_cons (pe_op op_sub (pe_callB call_lenN (by rfl) T.f_len (by decide +kernel) (pa_cons (pv 4) pa_nil)) (pe_getN (hu_9 hr) (pv 4) (pe_ix ix_tup (pv 3) pe_int (fun _ _ => rfl)) (fun _ _ => rfl))) pa_nil)))))))))))), ?_⟩
  obtain ⟨a, l, d, ps, g, lv, rv, lead, rows, r, rfl, hG, ok, hlv, hlead, hrv, hrows, hk, hR⟩ := h
  rw [st_kept_for_ever]
  walk_at "e"
  refine ⟨a, l, d, ps, g, lv, lead, rfl, hG, ok, hlv, hlead, OutP.of (fun dd ho => ?_) (fun dd ho => ?_) fun t H1 e ht => ?_⟩
  · unfold keptM at hk
    rw [ho] at hk
    cases hk
    exact hR
  · unfold keptM at hk
    rw [ho] at hk
    cases hk
    exact hR
  · have hok := walk_ok ok lead (freshS g) 0 (fresh_ok ok)
    generalize ho : walkM g lead (freshS g) 0 = o at ht hok
    have hk2 : (if rows = [] then some (Res.bad (lead.length : Nat)) else roundsM g rows 200 [] o (lead.length : Nat)) = some r := by
      unfold keptM at hk
      rw [ho] at hk
      cases o with
      | none d => exact ht.elim
      | bad d => exact ht.elim
      | dry d n => exact hk
      | kept st => exact hk
    have hrv1 := hrv.mono e _
    have hlv1 := hlv.mono e _
    cases hlv1 with
    | lst hla hlall =>
    rename_i la lvs
    have hll : lvs.length = lead.length := by rw [hlall.len, List.length_map]
    cases hrv1 with
    | lst hra hrall =>
    rename_i ra rvs
    have hrl : rvs.length = rows.length := by rw [hrall.len, List.length_map]
    walk_at "e"
    refine s_nil fun z hz => ?_
    have ez : Ex H1 (upd H1 z (.lst [])) := Ex.new hz
    walk_at "e"
    refine s_eqN (l := rows.map .list) (.lst (ez _ _ hra) (hrall.mono ez _)) (rows_shaped hrows) upd_same ?_
    walk_at "e"
    by_cases hre : rows = []
    · rw [if_pos (by rw [hre]; rfl)]
      rw [if_pos hre] at hk2
      cases hk2
      refine s_lenL (ez _ _ hla) ?_
      rw [hll]
      intro dd hdd
      exact hR _ _ ((e.trans ez).trans (Ex.new hdd)) upd_same
    · rw [if_neg (fun q => hre (List.map_eq_nil_iff.mp q))]
      rw [if_neg hre] at hk2
      intro M hM
      have e2 : Ex H1 (upd H1 z (.lst [])) := ez
      have hM1 : H1 M = none := fresh_back e2 hM
      walk_at "e"
      refine s_lenL ((e2.trans (Ex.new hM)) _ _ hla) ?_
      rw [hll]
      refine while_w (fun m σ H3 => ∃ (es : Ens) (met : List Stt) (t : Addr) (o : Out) (at_ : Int), σ = [some (.ref a), some (.ref la), some (.ref ra), some (.ref t), some (.ref M), some (.int at_)] ∧ Ex H1 (del H3 M) ∧ H3 M = some (DN P w M es) ∧ KeysAt (del H3 M) es ∧ metEs es met ∧
          met.Nodup ∧ (∀ st ∈ met, StOk g st) ∧ ToldAt (del H3 M) t o ∧ (∀ st, o = .kept st → StOk g st) ∧ roundsM g rows m met o at_ = some r) 200
        ⟨[], [], t, o, _, rfl, ?_, upd_same, fun x hx => (by cases hx), ⟨rfl, fun i x hx => by simp at hx⟩, List.nodup_nil, fun x hx => (by cases hx), ?_, fun st hst => (by subst hst; exact hok), hk2⟩ ?_
      · exact ex_into (e2.trans (Ex.new hM)) hM1
      · exact ht.mono (ex_into (e2.trans (Ex.new hM)) hM1)
      · rintro m σ H3 ⟨es, met, t, o, at_, rfl, e3, hMd, hkeys, hmet, hnd, hall, htold, hko, hrd⟩
        have e13 : Ex H H3 := e.trans (e3.trans ex_del)
        have hmetlen : es.length = met.length := by rw [← hmet.1, List.length_map]
        have hle : met.length ≤ 126 := met_le ok hnd hall
        cases m with
        | zero => cases hrd
        | succ f =>
        cases o with
        | none d => exact htold.elim
        | bad d => exact htold.elim
        | dry dd n =>
          cases hrd
          have h1 : H3 t = some (.tup [.bl false, .int dd, .str n]) := ex_del _ _ htold
          walk_at "e"
          refine s_ixT h1 (v := .bl false) rfl ?_
          walk_at "e"
          refine s_ixT h1 (v := .bl false) rfl ?_
          walk_at "e"
          exact hR t H3 e13 h1
        | kept st =>
          obtain ⟨v, h1', hst'⟩ := htold
          have h1 : H3 t = some (.tup [.bl true, v]) := ex_del _ _ h1'
          have hst : StA H3 v st := hst'.mono ex_del
          have hsok := hko st rfl
          have i0 : atI [V.bl true, v] 0 = some (.bl true) := rfl
          have i1 : atI [V.bl true, v] 1 = some v := rfl
          obtain ⟨va, vb, hv, hva, hvb⟩ := id hst
          have hrd : (if st ∈ met then some (Res.ever ((met.length : Int) - (met.idxOf st : Nat))) else roundsM g rows f (met ++ [st]) (walkM g rows st at_) (at_ + (rows.length : Nat))) = some r := hrd
          subst hv
          walk_at "e"
          refine s_ixT h1 i0 ?_
          walk_at "e"
          refine s_ixT h1 i1 ?_
          refine ⟨va, M, es, st, rfl, rfl, hMd, hkeys.mono ex_del, hst, ?_⟩
          by_cases hin : st ∈ met
          · rw [if_pos hin] at hrd
            cases hrd
            have hl := look_met (es := es) (st := st) 0 (fun i x hx => by rw [hmet.2 i x hx, Nat.zero_add]) (by rw [hmet.1]; exact hin)
            rw [hmet.1, Nat.zero_add] at hl
            rw [hl]
            walk_at "e"
            refine s_ixT h1 i0 ?_
            walk_at "e"
            refine ⟨M, es, rfl, hMd, hkeys.mono ex_del, by omega, ?_⟩
            walk_at "e"
            refine s_ixT h1 i1 ?_
            refine ⟨M, va, es, st, _, rfl, rfl, hMd, hkeys.mono ex_del, hst, hl, ?_⟩
            walk_at "e"
            refine s_nwT (by show 2 ≤ 100000; decide) fun t2 ht2 => ?_
            rw [hmetlen]
            exact hR t2 _ (e13.trans (Ex.new ht2)) upd_same
          · rw [if_neg hin] at hrd
            have hl := look_none (es := es) (st := st) (by rw [hmet.1]; exact hin)
            rw [hl]
            walk_at "e"
            refine ⟨_, fun _ _ q => q, ?_⟩
            refine ⟨M, es, rfl, hMd, hkeys.mono ex_del, by omega, ?_⟩
            walk_at "e"
            refine s_ixT h1 i1 ?_
            refine ⟨M, va, es, st, rfl, rfl, hMd, hkeys.mono ex_del, hst, hl, by omega, ?_⟩
            walk_at "e"
            generalize hH4 : upd H3 M (DN P w M (es ++ [(st, va, V.int (es.length : Nat))])) = H4
            have hM4 : H4 M = some (DN P w M (es ++ [(st, va, V.int (es.length : Nat))])) := by rw [← hH4, upd_same]
            have d34 : del H4 M = del H3 M := by rw [← hH4, del_upd]
            have e4 : Ex (del H3 M) H4 := by rw [← d34]; exact ex_del
            have nMt : t ≠ M := fun q => by rw [q, hMd] at h1; cases h1
            have e14 : Ex H1 H4 := e3.trans e4
            have e04 : Ex H H4 := e.trans e14
            refine s_ixT (by rw [← hH4, upd_ne nMt]; exact h1) i1 ?_
            walk_at "e"
            have hmet' : metEs (es ++ [(st, va, V.int (es.length : Nat))]) (met ++ [st]) := by
              refine ⟨by rw [List.map_append, hmet.1]; rfl, fun i x hx => ?_⟩
              rcases Nat.lt_or_ge i es.length with q | q
              · rw [List.getElem?_append_left q] at hx
                exact hmet.2 i x hx
              · rw [List.getElem?_append_right q] at hx
                cases hq : i - es.length with
                | zero =>
                  rw [hq] at hx
                  cases hx
                  have : i = es.length := by omega
                  rw [this]
                | succ j =>
                  rw [hq] at hx
                  simp at hx
            have hnd' : (met ++ [st]).Nodup := by
              rw [List.nodup_append]
              exact ⟨hnd, by simp, fun x hx y hy => by
                have : y = st := by simpa using hy
                rw [this]
                exact fun z => hin (by rw [← z]; exact hx)⟩
            have hall' : ∀ s ∈ met ++ [st], StOk g s := fun s hs => by
              rcases List.mem_append.mp hs with q | q
              · exact hall s q
              · have : s = st := by simpa using q
                rw [this]
                exact hsok
            have hkeys' : KeysAt (del H4 M) (es ++ [(st, va, V.int (es.length : Nat))]) := by
              rw [d34]
              intro x hx
              rcases List.mem_append.mp hx with q | q
              · exact hkeys x q
              · have : x = (st, va, V.int (es.length : Nat)) := by simpa using q
                rw [this]
                exact hst'
            have hok' := walk_ok ok rows st at_ hsok
            refine ⟨a, l, d, ps, g, .ref ra, .ref va, rows, st, at_, rfl, hG.mono e04, ok, .lst (e14 _ _ hra) (hrall.mono e14 _), hrows, hst'.mono e4, hsok, OutP.of (fun dd ho => ?_) (fun dd ho => ?_) fun t5 H5 e5 ht5 => ?_⟩
            · rw [ho] at hrd
              cases f with
              | zero => cases hrd
              | succ f =>
                cases hrd
                exact fun H5 e5 => hR H5 (e04.trans e5)
            · rw [ho] at hrd
              cases f with
              | zero => cases hrd
              | succ f =>
                cases hrd
                exact fun H5 d5 e5 => hR H5 d5 (e04.trans e5)
            · walk_at "e"
              refine s_lenL (e5 _ _ (e14 _ _ hra)) ?_
              walk_at "e"
              rw [hrl]
              have nMt5 : t5 ≠ M := fun q => by
                rw [q] at ht5
                have hM5 := e5 _ _ hM4
                generalize walkM g rows st at_ = o5 at ht5
                cases o5 with
                | none d => exact ht5
                | bad d => exact ht5
                | dry d n =>
                  have ht5 : H5 M = _ := ht5
                  rw [hM5] at ht5
                  cases ht5
                | kept st5 =>
                  obtain ⟨v5, ht5, _⟩ := ht5
                  rw [hM5] at ht5
                  cases ht5
              refine ⟨f, by omega, _, _, t5, walkM g rows st at_, _, rfl, ?_, e5 _ _ hM4, hkeys'.mono (ex_del2 e5), hmet', hnd', hall', ?_, fun st5 h5 => (by rw [h5] at hok'; exact hok'), hrd⟩
              · exact e3.trans (by rw [← d34]; exact ex_del2 e5)
              · exact told_del ht5 (e5 _ _ hM4)
theorem ok_kept_for_ever (T : Txt K mg) : Df P w K mg base (L2.CX P w) 6 "kept_for_ever" ["garden", "lead", "rows"] [] (spForEver K) := let ⟨fd, F⟩ := T.d_kept_for_ever; mk_df F (fn_kept_for_ever T F) T.g_kept_for_ever (F.bindsN fun _ _ _ _ _ _ us hl => match us, hl with | [_, _, _], _ => rfl)
end
end Tk

set_option maxHeartbeats 4000000
/-! A garden's making. -/
namespace Tk
open PySem PySem.Spec PyProof.Rows L2 He Evl
local macro_rules | `(tactic| walk_at "e") => `(tactic| (try simp only [a_seq, a_var0, a_varS, a_c, a_asg, a_name, a_set0, a_setS, a_ret, a_retN, a_ifS, a_drop, a_next, a_op, a_un, a_I0, a_I, a_U, a_bT, a_test, a_B, a_and, a_or, a_not, a_andV, a_orV, a_notV, a_if, a_isN, a_notN, a_nil, a_cons, a_CB, a_lst, a_tup, a_dget, a_din, a_dnotin, a_dput, a_newK, a_revL, a_getN, a_putN, a_newN, a_forL, a_forT, a_forR, a_lcL, a_lcR, a_yes, a_w0, a_w1, cx_K, cx_P, cx_w, a_eqI, a_neI, a_eqS, a_neS, a_call, a_callS, a_clsFn, a_meth, a_make, a_fld, a_fldS, a_BM, a_BM0, a_sl, a_noP, a_part, a_intP, a_gTup, a_gNil, a_gCons, a_gSub, a_ipI, a_ipMul, a_aug, a_augS, a_chain, m_and, m_or, a_xp, cxh_K, a_veI, a_ost, a_mkK, a_nn, not_false_eq_true, not_true_eq_false, Option.map_some, Option.map_none, Option.isSome_some, Option.isSome_none, List.map_cons, List.map_nil, true_and, and_true, true_or, or_true, false_and, and_false, false_or, or_false, if_true, if_false, Bool.false_eq_true, decide_eq_true_eq, Bool.not_eq_true, Bool.not_true, Bool.not_false, decide_eq_false_iff_not, Bool.not_eq_eq_eq_not, reduceCtorEq, Bool.true_eq_false, List.cons_append, List.nil_append, List.append_nil]))
local macro_rules | `(tactic| walk_at "1") => `(tactic| ((try simp only [a_var0, a_varS, a_c, a_asg, a_name, a_set0, a_setS, a_ret, a_retN, a_ifS, a_drop, a_next, a_op, a_un, a_I0, a_I, a_U, a_bT, a_test, a_B, a_and, a_or, a_not, a_andV, a_orV, a_notV, a_if, a_isN, a_notN, a_nil, a_cons, a_CB, a_lst, a_tup, a_dget, a_din, a_dnotin, a_dput, a_newK, a_revL, a_getN, a_putN, a_newN, a_forL, a_forT, a_forR, a_lcL, a_lcR, a_yes, a_w0, a_w1, cx_K, cx_P, cx_w, a_eqI, a_neI, a_eqS, a_neS, a_call, a_callS, a_clsFn, a_meth, a_make, a_fld, a_fldS, a_BM, a_BM0, a_sl, a_noP, a_part, a_intP, a_gTup, a_gNil, a_gCons, a_gSub, a_ipI, a_ipMul, a_aug, a_augS, a_chain, m_and, m_or, a_xp, cxh_K, a_veI, a_ost, a_mkK, a_nn, not_false_eq_true, not_true_eq_false, Option.map_some, Option.map_none, Option.isSome_some, Option.isSome_none, List.map_cons, List.map_nil, true_and, and_true, true_or, or_true, false_and, and_false, false_or, or_false, if_true, if_false, Bool.false_eq_true, decide_eq_true_eq, Bool.not_eq_true, Bool.not_true, Bool.not_false, decide_eq_false_iff_not, Bool.not_eq_eq_eq_not, reduceCtorEq, Bool.true_eq_false, List.cons_append, List.nil_append, List.append_nil]); rw [a_seq]; (try simp only [a_var0, a_varS, a_c, a_asg, a_name, a_set0, a_setS, a_ret, a_retN, a_ifS, a_drop, a_next, a_op, a_un, a_I0, a_I, a_U, a_bT, a_test, a_B, a_and, a_or, a_not, a_andV, a_orV, a_notV, a_if, a_isN, a_notN, a_nil, a_cons, a_CB, a_lst, a_tup, a_dget, a_din, a_dnotin, a_dput, a_newK, a_revL, a_getN, a_putN, a_newN, a_forL, a_forT, a_forR, a_lcL, a_lcR, a_yes, a_w0, a_w1, cx_K, cx_P, cx_w, a_eqI, a_neI, a_eqS, a_neS, a_call, a_callS, a_clsFn, a_meth, a_make, a_fld, a_fldS, a_BM, a_BM0, a_sl, a_noP, a_part, a_intP, a_gTup, a_gNil, a_gCons, a_gSub, a_ipI, a_ipMul, a_aug, a_augS, a_chain, m_and, m_or, a_xp, cxh_K, a_veI, a_ost, a_mkK, a_nn, not_false_eq_true, not_true_eq_false, Option.map_some, Option.map_none, Option.isSome_some, Option.isSome_none, List.map_cons, List.map_nil, true_and, and_true, true_or, or_true, false_and, and_false, false_or, or_false, if_true, if_false, Bool.false_eq_true, decide_eq_true_eq, Bool.not_eq_true, Bool.not_true, Bool.not_false, decide_eq_false_iff_not, Bool.not_eq_eq_eq_not, reduceCtorEq, Bool.true_eq_false, List.cons_append, List.nil_append, List.append_nil])))
local macro_rules | `(tactic| walk_at "0") => `(tactic| (try simp only [a_var0, a_varS, a_c, a_asg, a_name, a_set0, a_setS, a_ret, a_retN, a_ifS, a_drop, a_next, a_op, a_un, a_I0, a_I, a_U, a_bT, a_test, a_B, a_and, a_or, a_not, a_andV, a_orV, a_notV, a_if, a_isN, a_notN, a_nil, a_cons, a_CB, a_lst, a_tup, a_dget, a_din, a_dnotin, a_dput, a_newK, a_revL, a_getN, a_putN, a_newN, a_forL, a_forT, a_forR, a_lcL, a_lcR, a_yes, a_w0, a_w1, cx_K, cx_P, cx_w, a_eqI, a_neI, a_eqS, a_neS, a_call, a_callS, a_clsFn, a_meth, a_make, a_fld, a_fldS, a_BM, a_BM0, a_sl, a_noP, a_part, a_intP, a_gTup, a_gNil, a_gCons, a_gSub, a_ipI, a_ipMul, a_aug, a_augS, a_chain, m_and, m_or, a_xp, cxh_K, a_veI, a_ost, a_mkK, a_nn, not_false_eq_true, not_true_eq_false, Option.map_some, Option.map_none, Option.isSome_some, Option.isSome_none, List.map_cons, List.map_nil, true_and, and_true, true_or, or_true, false_and, and_false, false_or, or_false, if_true, if_false, Bool.false_eq_true, decide_eq_true_eq, Bool.not_eq_true, Bool.not_true, Bool.not_false, decide_eq_false_iff_not, Bool.not_eq_eq_eq_not, reduceCtorEq, Bool.true_eq_false, List.cons_append, List.nil_append, List.append_nil]))
section
variable {P : Program} {w : World} {K : PySem.W.Frag} {mg : Str → Option Value} {base : Heap}
theorem nameIx_fresh : ∀ {ps : List Pt} {i : Nat} {q : Pt}, (ps.map (·.name)).Nodup → ps[i]? = some q → nameIx (ps.take i) q.name = none
  | [], _, _, _, h => by simp at h
  | p :: ps, 0, q, _, h => rfl
  | p :: ps, i + 1, q, hn, h => by
    obtain ⟨h1, h2⟩ := List.nodup_cons.mp (show (p.name :: ps.map (·.name)).Nodup from hn)
    show nameIx (p :: ps.take i) q.name = none
    unfold nameIx
    have hq : ps[i]? = some q := h
    rw [if_neg (fun z => h1 (by rw [z]; exact List.mem_map_of_mem (List.mem_of_getElem? hq))), nameIx_fresh h2 hq]
    rfl
theorem ordL_put {ps : List Pt} {i : Nat} {q : Pt} (hq : ps[i]? = some q) (hn : nameIx (ps.take i) q.name = none) : putK (ordL (ps.take i)) (Sum.inr q.name) (V.int (((ordL (ps.take i)).length : Nat) : Int)) = ordL (ps.take (i + 1)) := by
  have hg := ordL_get (ps.take i) q.name
  rw [hn] at hg
  have hna : ((ordL (ps.take i)).any fun kv => decide (kv.1 = Sum.inr q.name)) = false := by
    cases hb : (ordL (ps.take i)).any fun kv => decide (kv.1 = Sum.inr q.name) with
    | false => rfl
    | true =>
      exfalso
      unfold valV at hg
      have h1 := Option.map_eq_none_iff.mp hg
      obtain ⟨x, hx, hx2⟩ := List.any_eq_true.mp hb
      have := List.find?_eq_none.mp h1 x hx
      rw [hx2] at this
      exact this rfl
  unfold putK
  rw [hna, if_neg Bool.false_ne_true, take_succ hq]
  unfold ordL
  rw [List.mapIdx_append, List.length_mapIdx]
  simp
theorem grd_put (l d : Addr) (g : Gd) : putF "order" (V.ref d) (putF "closed" (V.int g.closed) (putF "week" (V.int g.week) (putF "cans" (V.int g.cans) (putF "pots" (V.ref l) [])))) = grdF l d g := by
  have n1 : ¬ (("pots" : Str) = "cans") := by decide +kernel
  have n2 : ¬ (("pots" : Str) = "week") := by decide +kernel
  have n3 : ¬ (("pots" : Str) = "closed") := by decide +kernel
  have n4 : ¬ (("pots" : Str) = "order") := by decide +kernel
  have n5 : ¬ (("cans" : Str) = "week") := by decide +kernel
  have n6 : ¬ (("cans" : Str) = "closed") := by decide +kernel
  have n7 : ¬ (("cans" : Str) = "order") := by decide +kernel
  have n8 : ¬ (("week" : Str) = "closed") := by decide +kernel
  have n9 : ¬ (("week" : Str) = "order") := by decide +kernel
  have n10 : ¬ (("closed" : Str) = "order") := by decide +kernel
  simp [putF, n1, n2, n3, n4, n5, n6, n7, n8, n9, n10, grdF]
def spGarden (K : PySem.W.Frag) : Sp := fun vs H Q _ => ∃ (p dx l0 : Addr) (ps : List V) (g : Gd), vs = [.ref p, .ref l0, .int g.cans, .int g.week, .int g.closed] ∧ H p = some (.ins (ga K "Garden") dx []) ∧ H l0 = some (.lst ps) ∧ Paired (PotAt K H) ps g.pots ∧ g.Ok ∧
  ∀ (l d : Addr) (H' : Hp), (∀ b o, H b = some o → b ≠ p → H' b = some o) → GdIn K H' p l d ps g → Q .non H'
theorem sc_Garden_init : FnScope ["self", "pots", "cans", "week", "closed", "names", "pot"] ["self", "pots", "cans", "week", "closed"] (defScope s_Garden_init) := ⟨rfl, rfl, rfl, by decide +kernel, rfl, by decide +kernel, by decide +kernel⟩
theorem st_Garden_init (p0 p1 p2 p3 p4 : V) : start ["self", "pots", "cans", "week", "closed", "names", "pot"] [p0, p1, p2, p3, p4] = [some p0, some p1, some p2, some p3, some p4, none, none] := rfl
theorem fn_Garden_init (T : Txt K mg) {fd : FuncData} (F : FunD K "__init__" "Garden.__init__" (defArgs s_Garden_init) (defBody s_Garden_init) (defScope s_Garden_init) [V.int 1, V.int 1, V.int 0] [] (ma K (ga K "Garden") "__init__") fd) : FnOk P w K mg base CX0 3 (ma K (ga K "Garden") "__init__") fd ["self", "pots", "cans", "week", "closed"] (spGarden K) := by
  refine F.ok (CX := CX0) (k := 2) sc_Garden_init (fun vs H Q E h => ?L) (fun cdv A outer s H vs Q E hr h => ?B)
  case L => first | (obtain ⟨_, rfl, _⟩ := h; rfl) | (obtain ⟨_, _, rfl, _⟩ := h; rfl) | (obtain ⟨_, _, _, rfl, _⟩ := h; rfl) | (obtain ⟨_, _, _, _, rfl, _⟩ := h; rfl) | (obtain ⟨_, _, _, _, _, rfl, _⟩ := h; rfl) | (obtain ⟨_, _, _, _, _, _, rfl, _⟩ := h; rfl) | (obtain ⟨_, _, _, _, _, _, _, rfl, _⟩ := h; rfl) | (obtain ⟨_, _, _, _, _, _, _, _, rfl, _⟩ := h; rfl) | (obtain ⟨_, _, _, _, _, _, _, _, _, rfl, _⟩ := h; rfl) | (obtain ⟨_, _, _, _, _, _, _, _, _, _, rfl, _⟩ := h; rfl) | (obtain ⟨_, _, _, _, _, _, _, _, _, _, _, rfl, _⟩ := h; rfl) | (obtain ⟨_, _, _, _, _, _, _, _, _, _, _, _, rfl, _⟩ := h; rfl) | (obtain ⟨_, _, _, _, _, _, _, _, _, _, _, _, _, rfl, _⟩ := h; rfl)
  case B =>
  refine ⟨_, PSs.nox ((pss_cons (ps_if (PW.pt (pw_or (pt_not (pt_val (pe_callB call_isi (by rfl) T.f_isinstance (by decide +kernel) (pa_cons (pv 1) (pa_cons (pe_bltn (v := .ty "list") (u := .type "list") (by rfl) T.f_list (by decide +kernel) rfl) pa_nil))))) (pw_or1 (pt_not (pt_val (pe_callB (cr_all rfl) (by rfl) T.f_all (by decide +kernel) (pa_cons (pe_lc (own := [("pot", 6)]) (g := (gName 6)) (tt := tYes) (te := (tCB (rIsi K) (tCons (tVar 6) (tCons (tC _) tNil)))) rfl sc_Garden_init.nd (pi_list (pv 1)) (blkOk_by (own := [("pot", 6)]) (N := ["self", "pots", "cans", "week", "closed", "names", "pot"]) (sc := defScope s_Garden_init) (by decide +kernel)) (fun _ _ _ _ _ => (pg_name (i := 6) sc_Garden_init.nd rfl (Or.inl rfl))) (fun _ _ _ _ _ => pts_nil) (fun _ _ _ _ _ => (pe_callB call_isi (by rfl) T.f_isinstance (by decide +kernel) (pa_cons (pv 6) (pa_cons (pe_glob (v := .ref _) rfl T.g_Pot rfl) pa_nil))))) pa_nil))))))) (pss_one ps_never)
      pss_nil)
      (pss_cons (ps_if (PW.pt (pw_or (pt_not (pt_chain op_le op_le pe_int (pe_callB call_lenQ (by rfl) T.f_len (by decide +kernel) (pa_cons (pv 1) pa_nil)) (pe_gI rfl T.i_MOST_POTS))) (pw_or (pt_not (pt_val (pe_df (ok_within T) (hr.mono (by decide)) rfl pass0 (pa_cons (pv 2) (pa_cons pe_int (pa_cons (pe_gI rfl T.i_MOST_POTS) pa_nil)))))) (pw_or1 (pt_not (pt_val (pe_df (ok_within T) (hr.mono (by decide)) rfl pass0 (pa_cons (pv 3) (pa_cons pe_int (pa_cons (pe_gI rfl T.i_LONGEST_WEEK) pa_nil)))))))))) (pss_one ps_never)
      pss_nil)
      (pss_cons (ps_if (PW.pt (pw_or (pt_not (pt_val (pe_df (ok_is_whole T) (hr.mono (by decide)) rfl pass0 (pa_cons (pv 4) pa_nil)))) (pw_or (pt_cmpR op_lt (pv 4) pe_int (nomark _)) (pw_or1 (pt_cmpR op_ne (pe_op op_shr (pv 4) (pv 3)) pe_int (nomark _)))))) (pss_one ps_never)
      pss_nil)
      (pss_cons (ps_set (i := 5) sc_Garden_init.nd rfl (Or.inl rfl) pe_dnewK)
      (pss_cons (ps_for PassesOwn.never rfl (pi_list (pv 1)) (pg_name (i := 6) sc_Garden_init.nd rfl (Or.inl rfl))
      (pss_cons (ps_if (pt_cmp (pc_din (hu_1 hr) (pe_fld (pv 6) rfl) (pv 5))) (pss_one ps_never)
      pss_nil)
      (pss_one (ps_dput (hu_1 hr) (pv 5) (pe_fld (pv 6) rfl) (pe_callB call_lenDD (by rfl) T.f_len (by decide +kernel) (pa_cons (pv 5) pa_nil)) rfl))))
      (pss_cons (ps_fld (pv 0) (pe_callTy call_listO (by rfl) T.f_list (by decide +kernel) (pa_cons (pv 1) pa_nil)) rfl)
      (pss_cons (ps_fld (pv 0) (pv 2) rfl)
      (pss_cons (ps_fld (pv 0) (pv 3) rfl)
      (pss_cons (ps_fld (pv 0) (pv 4) rfl)
      (pss_cons (ps_fld (pv 0) (pv 5) rfl)
      (pss_one (ps_if (pt_cmpR op_gt (pe_mt0 (pv 0) (ok_Garden_size T) (hr.mono (by decide)) pass0) (pe_gI rfl T.i_MOST_STATES) (nomark _)) (pss_one ps_never)
      pss_nil))))))))))))), ?_⟩
  obtain ⟨p, dx, l0, ps, g, rfl, hp, hl0, hps, ok, k⟩ := h
  rw [st_Garden_init]
  walk_at "e"
  refine s_isiL hl0 (b := true) (by decide +kernel) (bT_of ?_)
  walk_at "e"
  have hlen : ps.length = g.pots.length := Paired.length hps
  have hn3 := ok.n3
  have hn1 := ok.n1
  have c0 := ok.c0
  have w0 := ok.w0
  have cl := ok.cl
  refine s_lcL hl0 (fun i acc H1 => acc = List.replicate i (V.bl true)) rfl ?_ ?_
  · rintro i x acc D H1 hD hx h1 h2 e rfl
    have hi := (List.getElem?_eq_some_iff.mp hx).1
    obtain ⟨q, _, hP⟩ := pair_of hps hx
    have e1 : Ex H H1 := e.trans ex_del
    have fin := lc_y (H := H) (D := D) (Pv := fun i acc H1 => acc = List.replicate i (V.bl true)) (i := i) (y := V.bl true) (by omega) h1 h2 e (Ex.refl H1) (rep_succ i)
    walk_at "e"
    cases hP with
    | pot h hr => exact s_isi (.own _) (T.pTy (e1 _ _ h)) (kit2 T.b10) fin
    | cac h hr => exact s_isi (.own _) (T.cTy (e1 _ _ h)) (kit2 T.b11) fin
  · rintro D H1 acc hD h1 h2 e rfl
    have e1 : Ex H H1 := e.trans ex_del
    refine ⟨D, List.replicate ps.length true, rfl, SqL.of (by rw [h1, List.map_replicate]), ?_⟩
    have hall : (List.replicate ps.length true).all id = true := by
      rw [List.all_eq_true]
      intro b hb
      exact (List.mem_replicate.mp hb).2
    rw [hall]
    walk_at "e"
    refine s_lenL (e1 _ _ hl0) ?_
    walk_at "e"
    rw [if_pos (by omega)]
    rw [if_neg (show ¬ ¬ ((ps.length : Nat) : Int) ≤ 8 by omega)]
    refine ⟨g.cans, 0, 8, rfl, ?_⟩
    rw [decide_eq_true (show (0 : Int) ≤ g.cans ∧ g.cans ≤ 8 from ⟨c0.1, by omega⟩)]
    walk_at "e"
    refine ⟨g.week, 1, 14, rfl, ?_⟩
    rw [decide_eq_true (show (1 : Int) ≤ g.week ∧ g.week ≤ 14 from w0)]
    walk_at "e"
    refine ⟨g.closed, rfl, ?_⟩
    walk_at "e"
    rw [if_neg (by omega)]
    refine ⟨by omega, ?_⟩
    have hz : g.closed / 2 ^ g.week.toNat = 0 := Int.ediv_eq_zero_of_lt cl.1 cl.2
    rw [hz]
    rw [if_neg (fun q => q rfl)]
    intro dd hdd
    have e2 : Ex H (upd H1 dd (.dK [])) := e1.trans (Ex.new hdd)
    have hdd0 : H dd = none := fresh_back e1 hdd
    walk_at "e"
    refine s_forL (e2 _ _ hl0) (fun i σ H2 => ∃ v6, σ = [some (.ref p), some (.ref l0), some (.int g.cans), some (.int g.week), some (.int g.closed), some (.ref dd), v6] ∧ Ex H H2 ∧ H2 dd = some (.dK (ordL (g.pots.take i)))) ⟨none, rfl, e2, upd_same⟩ (fun i σ H2 _ ⟨_, _, e3, _⟩ => e3 _ _ hl0) ?_ ?_
    · rintro N i x σ H2 hx ⟨v6, rfl, e3, hd⟩ hN
      obtain ⟨q, hq, hP⟩ := pair_of hps hx
      have hnm : nameIx (g.pots.take i) q.name = none := nameIx_fresh ok.nd hq
      walk_at "e"
      refine p_name T hP e3 (s_dinS hd ?_)
      rw [ordL_get, hnm]
      walk_at "e"
      refine ⟨dd, _, rfl, hd, ?_⟩
      walk_at "e"
      refine p_name T hP e3 ?_
      refine ⟨dd, _, rfl, DPut.k (k := Sum.inr q.name) hd (sz_lt (by unfold ordL; rw [List.length_mapIdx, List.length_take]; omega)), hN _ _ ⟨_, rfl, e3.mut hdd0, ?_⟩⟩
      rw [upd_same, ordL_put hq hnm]
    · rintro σ H2 ⟨v6, rfl, e3, hd⟩
      rw [hlen, List.take_length] at hd
      walk_at "e"
      refine s_listL (e3 _ _ hl0) fun l hl => ?_
      have hlp : H l = none := fresh_back e3 hl
      have npl : p ≠ l := ne_of_none hp hlp
      have npd : p ≠ dd := ne_of_none hp hdd0
      have ndl : dd ≠ l := ne_new hd hl
      refine s_fldS (by rw [upd_ne npl]; exact e3 _ _ hp) T.c_Garden T.n_Garden_pots (by decide) ?_
      refine s_fldS upd_same T.c_Garden T.n_Garden_cans (by show 1 < 1000; decide) ?_
      walk_at "e"
      refine s_fldS upd_same T.c_Garden T.n_Garden_week (by show 2 < 1000; decide) ?_
      walk_at "e"
      refine s_fldS upd_same T.c_Garden T.n_Garden_closed (by show 3 < 1000; decide) ?_
      walk_at "e"
      refine s_fldS upd_same T.c_Garden T.n_Garden_order (by show 4 < 1000; decide) ?_
      walk_at "e"
      generalize hHE : upd _ p _ = HE
      have hpE : HE p = some (.ins (ga K "Garden") dx (grdF l dd g)) := by
        rw [← hHE, upd_same]
        exact congrArg (fun z => some (HO.ins (ga K "Garden") dx z)) (grd_put l dd g)
      have keep : ∀ b o, H b = some o → b ≠ p → HE b = some o := fun b o hb hbp => by
        rw [← hHE, upd_ne hbp, upd_ne hbp, upd_ne hbp, upd_ne hbp, upd_ne hbp, upd_ne (ne_of_none hb hlp)]
        exact e3 _ _ hb
      have hlE : HE l = some (.lst ps) := by
        rw [← hHE, upd_ne npl.symm, upd_ne npl.symm, upd_ne npl.symm, upd_ne npl.symm, upd_ne npl.symm, upd_same]
      have hdE : HE dd = some (.dK (ordL g.pots)) := by
        rw [← hHE, upd_ne npd.symm, upd_ne npd.symm, upd_ne npd.symm, upd_ne npd.symm, upd_ne npd.symm, upd_ne ndl]
        exact hd
      have hpsE : Paired (PotAt K HE) ps g.pots := pairM (fun v q hP => by
        cases hP with
        | pot h hr => exact .pot (keep _ _ h (fun z => by rw [z, hp] at h; exact absurd (HO.ins.inj (Option.some.inj h)).2.2 (by simp))) hr
        | cac h hr => exact .cac (keep _ _ h (fun z => by rw [z, hp] at h; exact absurd (HO.ins.inj (Option.some.inj h)).2.2 (by simp))) hr) hps
      have hG : GdIn K HE p l dd ps g := ⟨⟨dx, hpE⟩, hlE, hdE, hpsE⟩
      refine g_rcv hG (Ex.refl _) (by decide +kernel) (by decide +kernel) (by decide +kernel) (by decide +kernel) (by decide +kernel) ?_
      refine ⟨p, l, dd, ps, g, rfl, hG, ok.gap, ?_⟩
      have hsz := ok.size
      walk_at "e"
      rw [if_neg (by omega)]
      exact k l dd HE keep hG
theorem ok_Garden_init_5 (T : Txt K mg) : Ck P w K mg base CX0 3 (ga K "Garden") "Garden" ["self", "pots", "cans", "week", "closed"] [] (spGarden K) := let ⟨fd, F⟩ := T.d_Garden_init; mk_ckD (ds := []) (fn_Garden_init T F) T.k_Garden T.g_Garden (F.binds1 5 3 (fun z => nomatch z) rfl (fun _ _ _ _ _ _ _ us its h1 h2 => match us, its, h1, h2 with | [_, _, _, _, _], [_, _, _], _, _ => ⟨_, rfl, rfl⟩))
end
end Tk

set_option maxHeartbeats 4000000
/-! The law's script, specs, gardens. -/
namespace Tk
open PySem PySem.Spec PyProof.Rows L2 He Evl
local macro_rules | `(tactic| walk_at "e") => `(tactic| (try simp only [a_seq, a_var0, a_varS, a_c, a_asg, a_name, a_set0, a_setS, a_ret, a_retN, a_ifS, a_drop, a_next, a_op, a_un, a_I0, a_I, a_U, a_bT, a_test, a_B, a_and, a_or, a_not, a_andV, a_orV, a_notV, a_if, a_isN, a_notN, a_nil, a_cons, a_CB, a_lst, a_tup, a_dget, a_din, a_dnotin, a_dput, a_newK, a_revL, a_getN, a_putN, a_newN, a_forL, a_forT, a_forR, a_lcL, a_lcR, a_yes, a_w0, a_w1, cx_K, cx_P, cx_w, a_eqI, a_neI, a_eqS, a_neS, a_call, a_callS, a_clsFn, a_meth, a_make, a_fld, a_fldS, a_BM, a_BM0, a_sl, a_noP, a_part, a_intP, a_gTup, a_gNil, a_gCons, a_gSub, a_ipI, a_ipMul, a_aug, a_augS, a_chain, m_and, m_or, a_xp, cxh_K, a_veI, a_ost, a_mkK, a_nn, not_false_eq_true, not_true_eq_false, Option.map_some, Option.map_none, Option.isSome_some, Option.isSome_none, List.map_cons, List.map_nil, true_and, and_true, true_or, or_true, false_and, and_false, false_or, or_false, if_true, if_false, Bool.false_eq_true, decide_eq_true_eq, Bool.not_eq_true, Bool.not_true, Bool.not_false, decide_eq_false_iff_not, Bool.not_eq_eq_eq_not, reduceCtorEq, Bool.true_eq_false, List.cons_append, List.nil_append, List.append_nil]))
local macro_rules | `(tactic| walk_at "1") => `(tactic| ((try simp only [a_var0, a_varS, a_c, a_asg, a_name, a_set0, a_setS, a_ret, a_retN, a_ifS, a_drop, a_next, a_op, a_un, a_I0, a_I, a_U, a_bT, a_test, a_B, a_and, a_or, a_not, a_andV, a_orV, a_notV, a_if, a_isN, a_notN, a_nil, a_cons, a_CB, a_lst, a_tup, a_dget, a_din, a_dnotin, a_dput, a_newK, a_revL, a_getN, a_putN, a_newN, a_forL, a_forT, a_forR, a_lcL, a_lcR, a_yes, a_w0, a_w1, cx_K, cx_P, cx_w, a_eqI, a_neI, a_eqS, a_neS, a_call, a_callS, a_clsFn, a_meth, a_make, a_fld, a_fldS, a_BM, a_BM0, a_sl, a_noP, a_part, a_intP, a_gTup, a_gNil, a_gCons, a_gSub, a_ipI, a_ipMul, a_aug, a_augS, a_chain, m_and, m_or, a_xp, cxh_K, a_veI, a_ost, a_mkK, a_nn, not_false_eq_true, not_true_eq_false, Option.map_some, Option.map_none, Option.isSome_some, Option.isSome_none, List.map_cons, List.map_nil, true_and, and_true, true_or, or_true, false_and, and_false, false_or, or_false, if_true, if_false, Bool.false_eq_true, decide_eq_true_eq, Bool.not_eq_true, Bool.not_true, Bool.not_false, decide_eq_false_iff_not, Bool.not_eq_eq_eq_not, reduceCtorEq, Bool.true_eq_false, List.cons_append, List.nil_append, List.append_nil]); rw [a_seq]; (try simp only [a_var0, a_varS, a_c, a_asg, a_name, a_set0, a_setS, a_ret, a_retN, a_ifS, a_drop, a_next, a_op, a_un, a_I0, a_I, a_U, a_bT, a_test, a_B, a_and, a_or, a_not, a_andV, a_orV, a_notV, a_if, a_isN, a_notN, a_nil, a_cons, a_CB, a_lst, a_tup, a_dget, a_din, a_dnotin, a_dput, a_newK, a_revL, a_getN, a_putN, a_newN, a_forL, a_forT, a_forR, a_lcL, a_lcR, a_yes, a_w0, a_w1, cx_K, cx_P, cx_w, a_eqI, a_neI, a_eqS, a_neS, a_call, a_callS, a_clsFn, a_meth, a_make, a_fld, a_fldS, a_BM, a_BM0, a_sl, a_noP, a_part, a_intP, a_gTup, a_gNil, a_gCons, a_gSub, a_ipI, a_ipMul, a_aug, a_augS, a_chain, m_and, m_or, a_xp, cxh_K, a_veI, a_ost, a_mkK, a_nn, not_false_eq_true, not_true_eq_false, Option.map_some, Option.map_none, Option.isSome_some, Option.isSome_none, List.map_cons, List.map_nil, true_and, and_true, true_or, or_true, false_and, and_false, false_or, or_false, if_true, if_false, Bool.false_eq_true, decide_eq_true_eq, Bool.not_eq_true, Bool.not_true, Bool.not_false, decide_eq_false_iff_not, Bool.not_eq_eq_eq_not, reduceCtorEq, Bool.true_eq_false, List.cons_append, List.nil_append, List.append_nil])))
local macro_rules | `(tactic| walk_at "0") => `(tactic| (try simp only [a_var0, a_varS, a_c, a_asg, a_name, a_set0, a_setS, a_ret, a_retN, a_ifS, a_drop, a_next, a_op, a_un, a_I0, a_I, a_U, a_bT, a_test, a_B, a_and, a_or, a_not, a_andV, a_orV, a_notV, a_if, a_isN, a_notN, a_nil, a_cons, a_CB, a_lst, a_tup, a_dget, a_din, a_dnotin, a_dput, a_newK, a_revL, a_getN, a_putN, a_newN, a_forL, a_forT, a_forR, a_lcL, a_lcR, a_yes, a_w0, a_w1, cx_K, cx_P, cx_w, a_eqI, a_neI, a_eqS, a_neS, a_call, a_callS, a_clsFn, a_meth, a_make, a_fld, a_fldS, a_BM, a_BM0, a_sl, a_noP, a_part, a_intP, a_gTup, a_gNil, a_gCons, a_gSub, a_ipI, a_ipMul, a_aug, a_augS, a_chain, m_and, m_or, a_xp, cxh_K, a_veI, a_ost, a_mkK, a_nn, not_false_eq_true, not_true_eq_false, Option.map_some, Option.map_none, Option.isSome_some, Option.isSome_none, List.map_cons, List.map_nil, true_and, and_true, true_or, or_true, false_and, and_false, false_or, or_false, if_true, if_false, Bool.false_eq_true, decide_eq_true_eq, Bool.not_eq_true, Bool.not_true, Bool.not_false, decide_eq_false_iff_not, Bool.not_eq_eq_eq_not, reduceCtorEq, Bool.true_eq_false, List.cons_append, List.nil_append, List.append_nil]))
section
variable {P : Program} {w : World} {K : PySem.W.Frag} {mg : Str → Option Value} {base : Heap}
def spCell (K : PySem.W.Frag) : Sp := fun vs H Q _ => ∃ (a : Addr) (ns : List Int) (k : Nat), vs = [.ref a, .int (k : Nat)] ∧ SqL K H a (ns.map V.int) ∧ ∀ z : Int, Q (.int z) H
theorem sc_cell_at_L : FnScope ["_law_script", "_law_k"] ["_law_script", "_law_k"] (defScope s_cell_at_L) := ⟨rfl, rfl, rfl, by decide +kernel, rfl, by decide +kernel, by decide +kernel⟩
theorem st_cell_at_L (p0 p1 : V) : start ["_law_script", "_law_k"] [p0, p1] = [some p0, some p1] := rfl
theorem fn_cell_at_L (T : Txt K mg) {fd : FuncData} (F : FunD K "_law_cell_at" "_law_cell_at" (defArgs s_cell_at_L) (defBody s_cell_at_L) (defScope s_cell_at_L) [] [] (ga K "_law_cell_at") fd) : FnOk P w K mg base CX0 1 (ga K "_law_cell_at") fd ["_law_script", "_law_k"] (spCell K) := by
  refine F.ok (CX := CX0) (k := 0) sc_cell_at_L (fun vs H Q E h => ?L) (fun cdv A outer s H vs Q E hr h => ?B)
  case L => first | (obtain ⟨_, rfl, _⟩ := h; rfl) | (obtain ⟨_, _, rfl, _⟩ := h; rfl) | (obtain ⟨_, _, _, rfl, _⟩ := h; rfl) | (obtain ⟨_, _, _, _, rfl, _⟩ := h; rfl) | (obtain ⟨_, _, _, _, _, rfl, _⟩ := h; rfl) | (obtain ⟨_, _, _, _, _, _, rfl, _⟩ := h; rfl) | (obtain ⟨_, _, _, _, _, _, _, rfl, _⟩ := h; rfl) | (obtain ⟨_, _, _, _, _, _, _, _, rfl, _⟩ := h; rfl) | (obtain ⟨_, _, _, _, _, _, _, _, _, rfl, _⟩ := h; rfl) | (obtain ⟨_, _, _, _, _, _, _, _, _, _, rfl, _⟩ := h; rfl) | (obtain ⟨_, _, _, _, _, _, _, _, _, _, _, rfl, _⟩ := h; rfl) | (obtain ⟨_, _, _, _, _, _, _, _, _, _, _, _, rfl, _⟩ := h; rfl) | (obtain ⟨_, _, _, _, _, _, _, _, _, _, _, _, _, rfl, _⟩ := h; rfl)
  case B =>
  refine ⟨_, PSs.nox ((pss_cons (ps_if (pt_cmpR op_lt (pv 1) (pe_callB call_lenQ (by rfl) T.f_len (by decide +kernel) (pa_cons (pv 0) pa_nil)) (nomark _)) (pss_one (ps_ret (pe_ix ix_list (pv 0) (pv 1) (fun _ _ => rfl))))
      pss_nil)
      (pss_one (ps_ret pe_int)))), ?_⟩
  obtain ⟨a, ns, k0, rfl, hS, k⟩ := h
  rw [st_cell_at_L]
  walk_at "e"
  refine ⟨a, _, rfl, .inl hS, ?_⟩
  walk_at "e"
  rw [List.length_map]
  by_cases h1 : ((k0 : Nat) : Int) < ((ns.length : Nat) : Int)
  · rw [if_pos h1]
    refine ⟨a, _, _, _, rfl, rfl, hS, at_nat (k := k0) (by rw [List.getElem?_map, List.getElem?_eq_getElem (show k0 < ns.length by omega)]; rfl), k _⟩
  · rw [if_neg h1]
    exact k 0
theorem ok_cell_at_L (T : Txt K mg) : Df P w K mg base CX0 1 "_law_cell_at" ["_law_script", "_law_k"] [] (spCell K) := let ⟨fd, F⟩ := T.d_cell_at_L; mk_df F (fn_cell_at_L T F) T.g_cell_at_L (F.bindsN fun _ _ _ _ _ _ us hl => match us, hl with | [_, _], _ => rfl)
def spDraw : Sp := fun vs H Q _ => ∃ z k m : Int, vs = [.int z, .int k, .int m] ∧ 0 < m ∧ ∀ (r : Int) (H' : Hp), 0 ≤ r → r < m → Ex H H' → Q (.int r) H'
theorem prime_pos {j : Int} (h0 : 0 ≤ j) (h8 : j < 8) : ∃ q : Int, 0 < q ∧ atI [V.int 1000003, V.int 1000033, V.int 1000037, V.int 1000039, V.int 1000081, V.int 1000099, V.int 1000117, V.int 1000121] j = some (.int q) := by
  have h : j = 0 ∨ j = 1 ∨ j = 2 ∨ j = 3 ∨ j = 4 ∨ j = 5 ∨ j = 6 ∨ j = 7 := by omega
  rcases h with rfl | rfl | rfl | rfl | rfl | rfl | rfl | rfl
  · exact ⟨1000003, by decide, rfl⟩
  · exact ⟨1000033, by decide, rfl⟩
  · exact ⟨1000037, by decide, rfl⟩
  · exact ⟨1000039, by decide, rfl⟩
  · exact ⟨1000081, by decide, rfl⟩
  · exact ⟨1000099, by decide, rfl⟩
  · exact ⟨1000117, by decide, rfl⟩
  · exact ⟨1000121, by decide, rfl⟩
theorem sc_draw_L : FnScope ["_law_cell", "_law_k", "_law_many", "_law_primes", "_law_blend"] ["_law_cell", "_law_k", "_law_many"] (defScope s_draw_L) := ⟨rfl, rfl, rfl, by decide +kernel, rfl, by decide +kernel, by decide +kernel⟩
theorem st_draw_L (p0 p1 p2 : V) : start ["_law_cell", "_law_k", "_law_many", "_law_primes", "_law_blend"] [p0, p1, p2] = [some p0, some p1, some p2, none, none] := rfl
theorem fn_draw_L (T : Txt K mg) {fd : FuncData} (F : FunD K "_law_draw" "_law_draw" (defArgs s_draw_L) (defBody s_draw_L) (defScope s_draw_L) [] [] (ga K "_law_draw") fd) : FnOk P w K mg base CX0 1 (ga K "_law_draw") fd ["_law_cell", "_law_k", "_law_many"] spDraw := by
  refine F.ok (CX := CX0) (k := 0) sc_draw_L (fun vs H Q E h => ?L) (fun cdv A outer s H vs Q E hr h => ?B)
  case L => first | (obtain ⟨_, rfl, _⟩ := h; rfl) | (obtain ⟨_, _, rfl, _⟩ := h; rfl) | (obtain ⟨_, _, _, rfl, _⟩ := h; rfl) | (obtain ⟨_, _, _, _, rfl, _⟩ := h; rfl) | (obtain ⟨_, _, _, _, _, rfl, _⟩ := h; rfl) | (obtain ⟨_, _, _, _, _, _, rfl, _⟩ := h; rfl) | (obtain ⟨_, _, _, _, _, _, _, rfl, _⟩ := h; rfl) | (obtain ⟨_, _, _, _, _, _, _, _, rfl, _⟩ := h; rfl) | (obtain ⟨_, _, _, _, _, _, _, _, _, rfl, _⟩ := h; rfl) | (obtain ⟨_, _, _, _, _, _, _, _, _, _, rfl, _⟩ := h; rfl) | (obtain ⟨_, _, _, _, _, _, _, _, _, _, _, rfl, _⟩ := h; rfl) | (obtain ⟨_, _, _, _, _, _, _, _, _, _, _, _, rfl, _⟩ := h; rfl) | (obtain ⟨_, _, _, _, _, _, _, _, _, _, _, _, _, rfl, _⟩ := h; rfl)
  case B =>
  refine ⟨_, PSs.nox ((pss_cons (ps_set (i := 3) sc_draw_L.nd rfl (Or.inl rfl) (pe_tup (pa_cons pe_int (pa_cons pe_int (pa_cons pe_int (pa_cons pe_int (pa_cons pe_int (pa_cons pe_int (pa_cons pe_int (pa_cons pe_int pa_nil))))))))))
      (pss_cons (ps_set (i := 4) sc_draw_L.nd rfl (Or.inl rfl) (pe_op op_add (pe_op op_add (pe_op op_mul (pv 0) pe_int) (pe_op op_mul (pv 1) pe_int)) (pe_op op_mul (pe_op op_mod (pe_op op_fdiv (pv 0) pe_int) pe_int) pe_int)))
      (pss_one (ps_ret (pe_op op_mod (pe_op op_mod (pv 4) (pe_ix ix_tup (pv 3) (pe_op op_mod (pv 1) pe_int) (fun _ _ => rfl))) (pv 2))))))), ?_⟩
  obtain ⟨z, k0, m, rfl, hm, k⟩ := h
  rw [st_draw_L]
  walk_at "e"
  refine s_nwT (by show 8 ≤ 100000; decide) fun t ht => ?_
  walk_at "e"
  obtain ⟨q, hq, hat⟩ := prime_pos (j := k0 % 8) (by omega) (by omega)
  refine ⟨.inr (by omega), .inr (by omega), ⟨by omega, by omega⟩, by omega, .inr (by omega), by omega, s_ixT upd_same hat ?_⟩
  walk_at "e"
  exact ⟨hq, hm, k _ _ (Int.emod_nonneg _ (by omega)) (Int.emod_lt_of_pos _ hm) (Ex.new ht)⟩
theorem ok_draw_L (T : Txt K mg) : Df P w K mg base CX0 1 "_law_draw" ["_law_cell", "_law_k", "_law_many"] [] spDraw := let ⟨fd, F⟩ := T.d_draw_L; mk_df F (fn_draw_L T F) T.g_draw_L (F.bindsN fun _ _ _ _ _ _ us hl => match us, hl with | [_, _, _], _ => rfl)
def spSpec (K : PySem.W.Frag) : Sp := fun vs H Q _ => ∃ (a : Addr) (ns : List Int) (f : Nat), vs = [.ref a, .int (f : Nat)] ∧ SqL K H a (ns.map V.int) ∧ ∀ (v l : Addr) (us : List V) (g : Gd) (H' : Hp), Ex H H' → g.Ok → SpIn H' v l us g → Q (.ref v) H'
def nmF (c : Int) (j : Nat) : Str := five.getD ((c + (j : Nat)) % 5).toNat ""
theorem nmF_mem (c : Int) (j : Nat) : nmF c j ∈ five := by
  unfold nmF
  have h0 : 0 ≤ (c + (j : Nat)) % 5 := Int.emod_nonneg _ (by decide)
  have h1 : (c + (j : Nat)) % 5 < 5 := Int.emod_lt_of_pos _ (by decide)
  have hl : ((c + (j : Nat)) % 5).toNat < five.length := by show _ < 5; omega
  rw [List.getD_eq_getElem?_getD, List.getElem?_eq_getElem hl]
  exact List.getElem_mem hl
theorem nmF_at (c : Int) (j : Nat) : atI (five.map V.str) ((c + (j : Nat)) % 5) = some (.str (nmF c j)) := by
  have h0 : 0 ≤ (c + (j : Nat)) % 5 := Int.emod_nonneg _ (by decide)
  have h1 : (c + (j : Nat)) % 5 < 5 := Int.emod_lt_of_pos _ (by decide)
  have hl : ((c + (j : Nat)) % 5).toNat < five.length := by show _ < 5; omega
  refine at_int h0 ?_
  unfold nmF
  rw [List.getElem?_map, List.getD_eq_getElem?_getD, List.getElem?_eq_getElem hl]
  rfl
theorem nmF_mod (c : Int) (j : Nat) : nmF c j = nmF (c % 5) j := by
  unfold nmF
  rw [show (c % 5 + (j : Nat)) % 5 = (c + (j : Nat)) % 5 by omega]
theorem nmF_nodup (c : Int) {n : Nat} (hn : n ≤ 3) : ((List.range n).map (nmF c)).Nodup := by
  have e : (List.range n).map (nmF c) = (List.range n).map (nmF (c % 5)) := List.map_congr_left fun j _ => nmF_mod c j
  rw [e]
  have h0 : 0 ≤ c % 5 := Int.emod_nonneg _ (by decide)
  have h1 : c % 5 < 5 := Int.emod_lt_of_pos _ (by decide)
  generalize c % 5 = d at h0 h1
  have h : d = 0 ∨ d = 1 ∨ d = 2 ∨ d = 3 ∨ d = 4 := by omega
  have hm : n = 0 ∨ n = 1 ∨ n = 2 ∨ n = 3 := by omega
  rcases h with rfl | rfl | rfl | rfl | rfl <;> rcases hm with rfl | rfl | rfl | rfl <;> decide +kernel
theorem fold_le {m : Int} (hm : 0 ≤ m) : ∀ {ps : List Pt} {w : Int}, 0 ≤ w → (∀ p ∈ ps, 0 ≤ p.gap ∧ p.gap ≤ m) → ps.foldl (fun b p => b * p.gap) w ≤ w * m ^ ps.length
  | [], w, _, _ => by simp
  | p :: ps, w, hw, h => by
    have hp := h p List.mem_cons_self
    have ih := fold_le hm (ps := ps) (w := w * p.gap) (Int.mul_nonneg hw hp.1) fun q hq => h q (List.mem_cons_of_mem _ hq)
    have h2 : w * p.gap * m ^ ps.length ≤ w * m * m ^ ps.length := Int.mul_le_mul_of_nonneg_right (Int.mul_le_mul_of_nonneg_left hp.2 hw) (Int.pow_nonneg hm)
    rw [List.foldl_cons, List.length_cons, Int.pow_succ]
    have e : w * (m ^ ps.length * m) = w * m * m ^ ps.length := by rw [Int.mul_comm (m ^ ps.length) m, ← Int.mul_assoc]
    rw [e]
    omega
theorem cans_at {j : Int} (h0 : 0 ≤ j) (h8 : j < 6) : ∃ q : Int, 0 ≤ q ∧ q ≤ 3 ∧ atI [V.int 1, V.int 2, V.int 1, V.int 0, V.int 3, V.int 1] j = some (.int q) := by
  have h : j = 0 ∨ j = 1 ∨ j = 2 ∨ j = 3 ∨ j = 4 ∨ j = 5 := by omega
  rcases h with rfl | rfl | rfl | rfl | rfl | rfl
  · exact ⟨1, by decide, by decide, rfl⟩
  · exact ⟨2, by decide, by decide, rfl⟩
  · exact ⟨1, by decide, by decide, rfl⟩
  · exact ⟨0, by decide, by decide, rfl⟩
  · exact ⟨3, by decide, by decide, rfl⟩
  · exact ⟨1, by decide, by decide, rfl⟩
theorem sc_spec_L : FnScope ["_law_script", "_law_first", "_law_cell", "_law_other", "_law_third", "_law_count", "_law_most", "_law_names", "_law_pots", "_law_k", "_law_gap", "_law_rest", "_law_week", "_law_closed"] ["_law_script", "_law_first"] (defScope s_spec_L) := ⟨rfl, rfl, rfl, by decide +kernel, rfl, by decide +kernel, by decide +kernel⟩
theorem st_spec_L (p0 p1 : V) : start ["_law_script", "_law_first", "_law_cell", "_law_other", "_law_third", "_law_count", "_law_most", "_law_names", "_law_pots", "_law_k", "_law_gap", "_law_rest", "_law_week", "_law_closed"] [p0, p1] = [some p0, some p1, none, none, none, none, none, none, none, none, none, none, none, none] := rfl
theorem fn_spec_L (T : Txt K mg) {fd : FuncData} (F : FunD K "_law_spec" "_law_spec" (defArgs s_spec_L) (defBody s_spec_L) (defScope s_spec_L) [] [] (ga K "_law_spec") fd) : FnOk P w K mg base CX0 2 (ga K "_law_spec") fd ["_law_script", "_law_first"] (spSpec K) := by
  refine F.ok (CX := CX0) (k := 1) sc_spec_L (fun vs H Q E h => ?L) (fun cdv A outer s H vs Q E hr h => ?B)
  case L => first | (obtain ⟨_, rfl, _⟩ := h; rfl) | (obtain ⟨_, _, rfl, _⟩ := h; rfl) | (obtain ⟨_, _, _, rfl, _⟩ := h; rfl) | (obtain ⟨_, _, _, _, rfl, _⟩ := h; rfl) | (obtain ⟨_, _, _, _, _, rfl, _⟩ := h; rfl) | (obtain ⟨_, _, _, _, _, _, rfl, _⟩ := h; rfl) | (obtain ⟨_, _, _, _, _, _, _, rfl, _⟩ := h; rfl) | (obtain ⟨_, _, _, _, _, _, _, _, rfl, _⟩ := h; rfl) | (obtain ⟨_, _, _, _, _, _, _, _, _, rfl, _⟩ := h; rfl) | (obtain ⟨_, _, _, _, _, _, _, _, _, _, rfl, _⟩ := h; rfl) | (obtain ⟨_, _, _, _, _, _, _, _, _, _, _, rfl, _⟩ := h; rfl) | (obtain ⟨_, _, _, _, _, _, _, _, _, _, _, _, rfl, _⟩ := h; rfl) | (obtain ⟨_, _, _, _, _, _, _, _, _, _, _, _, _, rfl, _⟩ := h; rfl)
  case B =>
  refine ⟨_, PSs.nox ((pss_cons (ps_set (i := 2) sc_spec_L.nd rfl (Or.inl rfl) (pe_df (ok_cell_at_L T) (hr.mono (by decide)) rfl pass0 (pa_cons (pv 0) (pa_cons (pv 1) pa_nil))))
      (pss_cons (ps_set (i := 3) sc_spec_L.nd rfl (Or.inl rfl) (pe_df (ok_cell_at_L T) (hr.mono (by decide)) rfl pass0 (pa_cons (pv 0) (pa_cons (pe_op op_add (pv 1) pe_int) pa_nil))))
      (pss_cons (ps_set (i := 4) sc_spec_L.nd rfl (Or.inl rfl) (pe_df (ok_cell_at_L T) (hr.mono (by decide)) rfl pass0 (pa_cons (pv 0) (pa_cons (pe_op op_add (pv 1) pe_int) pa_nil))))
      (pss_cons (ps_set (i := 5) sc_spec_L.nd rfl (Or.inl rfl) (pe_op op_add pe_int (pe_op op_mod (pv 2) pe_int)))
      (pss_cons (ps_set (i := 6) sc_spec_L.nd rfl (Or.inl rfl) pe_int)
      (pss_cons (ps_if (PW.pt (pw_and (pt_cmpR op_eq (pv 5) pe_int (nomark _)) (pw_and1 (pt_cmpR op_gt (pe_op op_mod (pe_op op_fdiv (pv 2) pe_int) pe_int) pe_int (nomark _))))) (pss_one (ps_set (i := 6) sc_spec_L.nd rfl (Or.inl rfl) pe_int))
      pss_nil)
      (pss_cons (ps_if (pt_cmpR op_eq (pe_op op_mod (pe_op op_fdiv (pv 2) pe_int) pe_int) pe_int (nomark _)) (pss_cons (ps_set (i := 5) sc_spec_L.nd rfl (Or.inl rfl) pe_int)
      (pss_one (ps_set (i := 6) sc_spec_L.nd rfl (Or.inl rfl) pe_int)))
      pss_nil)
      (pss_cons (ps_set (i := 7) sc_spec_L.nd rfl (Or.inl rfl) (pe_tup (pa_cons pe_str (pa_cons pe_str (pa_cons pe_str (pa_cons pe_str (pa_cons pe_str pa_nil)))))))
      (pss_cons (ps_set (i := 8) sc_spec_L.nd rfl (Or.inl rfl) (pe_lst pa_nil))
      (pss_cons (ps_for PassesOwn.never rfl (pi_range1 rfl T.f_range (pa_cons (pv 5) pa_nil)) (pg_name (i := 9) sc_spec_L.nd rfl (Or.inl rfl))
      (pss_cons (ps_set (i := 10) sc_spec_L.nd rfl (Or.inl rfl) (pe_op op_add pe_int (pe_df (ok_draw_L T) (hr.mono (by decide)) rfl pass0 (pa_cons (pv 3) (pa_cons (pv 9) (pa_cons (pv 6) pa_nil))))))
      (pss_cons (ps_set (i := 11) sc_spec_L.nd rfl (Or.inl rfl) (pe_un un_neg pe_int))
      (pss_cons (ps_if (pt_cmpR op_eq (pe_df (ok_draw_L T) (hr.mono (by decide)) rfl pass0 (pa_cons (pv 3) (pa_cons (pe_op op_add (pv 9) pe_int) (pa_cons pe_int pa_nil)))) pe_int (nomark _)) (pss_one (ps_set (i := 11) sc_spec_L.nd rfl (Or.inl rfl) (pe_df (ok_draw_L T) (hr.mono (by decide)) rfl pass0 (pa_cons (pv 3) (pa_cons (pe_op op_add (pv 9) pe_int) (pa_cons (pv 10) pa_nil))))))
      pss_nil)
      (pss_one (ps_expr (pe_bm PySem.F.plainAttrs_list PySem.F.slot_list_append PySem.F.type_list_append mt_append (pv 8) (pa_cons (pe_tup (pa_cons (pe_ix ix_tup (pv 7) (pe_op op_mod (pe_op op_add (pe_op op_fdiv (pv 2) pe_int) (pv 9)) pe_int) (fun _ _ => rfl)) (pa_cons (pv 10) (pa_cons (pv 11) pa_nil)))) pa_nil))))))))
      (pss_cons (ps_set (i := 12) sc_spec_L.nd rfl (Or.inl rfl) (pe_op op_add pe_int (pe_callTy call_int1' (by rfl) T.f_int (by decide +kernel) (pa_cons (pe_cmpR op_eq (pe_op op_mod (pv 4) pe_int) pe_int (nomark _)) pa_nil))))
      (pss_cons (ps_if (pt_cmpR op_eq (pe_op op_mod (pe_op op_fdiv (pv 4) pe_int) pe_int) pe_int (nomark _)) (pss_one (ps_set (i := 12) sc_spec_L.nd rfl (Or.inl rfl) (pe_op op_add pe_int (pe_op op_mod (pe_op op_fdiv (pv 4) pe_int) pe_int))))
      pss_nil)
      (pss_cons (ps_if (pt_cmpR op_eq (pe_op op_mod (pe_op op_fdiv (pv 2) pe_int) pe_int) pe_int (nomark _)) (pss_one (ps_set (i := 12) sc_spec_L.nd rfl (Or.inl rfl) (pe_op op_add pe_int (pe_op op_mod (pv 4) pe_int))))
      pss_nil)
      (pss_cons (ps_set (i := 13) sc_spec_L.nd rfl (Or.inl rfl) pe_int)
      (pss_cons (ps_if (pt_cmpR op_eq (pe_op op_mod (pe_op op_fdiv (pv 4) pe_int) pe_int) pe_int (nomark _)) (pss_one (ps_set (i := 13) sc_spec_L.nd rfl (Or.inl rfl) (pe_op op_mod (pe_op op_fdiv (pv 4) pe_int) (pe_op op_shl pe_int (pv 12)))))
      pss_nil)
      (pss_one (ps_ret (pe_tup (pa_cons (pv 8) (pa_cons (pe_ix ix_tup (pe_tup (pa_cons pe_int (pa_cons pe_int (pa_cons pe_int (pa_cons pe_int (pa_cons pe_int (pa_cons pe_int pa_nil))))))) (pe_op op_mod (pe_op op_fdiv (pv 4) pe_int) pe_int) (fun _ _ => rfl)) (pa_cons (pv 12) (pa_cons (pv 13) pa_nil))))))))))))))))))))))), ?_⟩
  obtain ⟨a, ns, f, rfl, hS, k⟩ := h
  rw [st_spec_L]
  walk_at "1"
  refine ⟨a, ns, f, rfl, hS, fun z => ?_⟩
  walk_at "1"
  refine ⟨a, ns, f + 1, rfl, hS, fun zo => ?_⟩
  walk_at "1"
  refine ⟨a, ns, f + 2, rfl, hS, fun zt => ?_⟩
  walk_at "1"
  refine ⟨by decide, ?_⟩
  walk_at "1"
  -- count and the most that a gap may be
  refine s_cut (fun σ H' => ∃ mo : Int, σ = [some (.ref a), some (.int (f : Nat)), some (.int z), some (.int zo), some (.int zt), some (.int (1 + z % 3)), some (.int mo), none, none, none, none, none, none, none] ∧ H' = H ∧ (mo = 2 ∨ mo = 3)) ?_ ?_
  rotate_left
  · intro N hN
    walk_at "e"
    have fin3 := hN _ _ ⟨3, rfl, rfl, .inr rfl⟩
    have fin2 := hN _ _ ⟨2, rfl, rfl, .inl rfl⟩
    by_cases h1 : 1 + z % 3 = 3
    · rw [if_pos h1]
      refine ⟨⟨by omega, by omega⟩, by omega, ?_⟩
      split
      · exact fin2
      · exact fin3
    · rw [if_neg h1]
      exact fin3
  rintro σ H1 ⟨mo, rfl, rfl, hmo⟩
  refine s_cut (fun σ H' => ∃ co mo : Int, σ = [some (.ref a), some (.int (f : Nat)), some (.int z), some (.int zo), some (.int zt), some (.int co), some (.int mo), none, none, none, none, none, none, none] ∧ H' = H1 ∧ ((z / 9 % 6 = 4 ∧ co = 1 ∧ mo = 9) ∨ (z / 9 % 6 ≠ 4 ∧ 1 ≤ co ∧ co ≤ 3 ∧ 2 ≤ mo ∧ mo ≤ 3))) ?_ ?_
  rotate_left
  · intro N hN
    walk_at "e"
    refine ⟨⟨by omega, by omega⟩, by omega, ?_⟩
    by_cases h1 : z / 9 % 6 = 4
    · rw [if_pos h1]
      exact hN _ _ ⟨1, 9, rfl, rfl, .inl ⟨h1, rfl, rfl⟩⟩
    · rw [if_neg h1]
      exact hN _ _ ⟨_, mo, rfl, rfl, .inr ⟨h1, by omega, by omega, by omega, by omega⟩⟩
  rintro σ H1 ⟨co, mo, rfl, rfl, hcm⟩
  have hco : 1 ≤ co ∧ co ≤ 3 := by omega
  have hmo2 : 2 ≤ mo ∧ mo ≤ 9 := by omega
  walk_at "1"
  refine s_nwT (by show 5 ≤ 100000; decide) fun nt hnt => ?_
  have e1 : Ex H1 (upd H1 nt (.tup (five.map V.str))) := Ex.new hnt
  have hnt1 : upd H1 nt (.tup (five.map V.str)) nt = some (.tup (five.map V.str)) := upd_same
  show tSeq _ _ _ _ (upd H1 nt (.tup (five.map V.str)))
  generalize upd H1 nt (.tup (five.map V.str)) = H2 at e1 hnt1
  walk_at "1"
  refine s_nil fun F hF => ?_
  have hFn : H1 F = none := fresh_back e1 hF
  obtain ⟨n, rfl⟩ : ∃ n : Nat, co = (n : Nat) := ⟨co.toNat, by omega⟩
  walk_at "1"
  have eF : Ex H2 (upd H2 F (.lst [])) := Ex.new hF
  refine s_forR (by omega) (fun i σ H3 => ∃ (us : List V) (pts : List Pt) (v9 v10 v11 : Option V), σ = [some (.ref a), some (.int (f : Nat)), some (.int z), some (.int zo), some (.int zt), some (.int (n : Nat)), some (.int mo), some (.ref nt), some (.ref F), v9, v10, v11, none, none] ∧
      Ex H2 (del H3 F) ∧ H3 F = some (.lst us) ∧ DqAll (del H3 F) us (pts.map ptD) ∧ pts.map (·.name) = (List.range i).map (nmF (z / 54)) ∧ (∀ p ∈ pts, (1 ≤ p.gap ∧ p.gap ≤ mo) ∧ -1 ≤ p.rest ∧ p.rest < p.gap))
    ⟨[], [], none, none, none, rfl, ex_into eF hF, upd_same, .nil, rfl, fun p hp => (by cases hp)⟩ ?_ ?_
  · rintro N i σ H3 hi ⟨us, pts, v9, v10, v11, rfl, e3, hH, hdq, hnm, hpt⟩ hN
    have hus : us.length = i := by
      rw [hdq.len, List.length_map]
      have := congrArg List.length hnm
      rwa [List.length_map, List.length_map, List.length_range] at this
    walk_at "1"
    refine ⟨zo, (i : Nat), mo, rfl, by omega, fun r H4 r0 r1 e4 => ?_⟩
    walk_at "1"
    -- the rest
    refine s_cut (fun σ H5 => ∃ re : Int, σ = [some (.ref a), some (.int (f : Nat)), some (.int z), some (.int zo), some (.int zt), some (.int (n : Nat)), some (.int mo), some (.ref nt), some (.ref F), some (.int (i : Nat)), some (.int (1 + r)), some (.int re), none, none] ∧ Ex H3 H5 ∧ -1 ≤ re ∧ re < 1 + r) ?_ ?_
    rotate_left
    · intro M hM
      walk_at "e"
      refine ⟨zo, (i : Nat) + 4, 4, rfl, by decide, fun r2 H5 _ _ e5 => ?_⟩
      walk_at "e"
      by_cases h2 : r2 = 0
      · rw [if_pos h2]
        refine ⟨zo, (i : Nat) + 5, 1 + r, rfl, by omega, fun r3 H6 s0 s1 e6 => ?_⟩
        walk_at "e"
        exact hM _ _ ⟨r3, rfl, (e4.trans e5).trans e6, by omega, s1⟩
      · rw [if_neg h2]
        exact hM _ _ ⟨-1, rfl, e4.trans e5, by omega, by omega⟩
    rintro σ H5 ⟨re, rfl, e5, hr0, hr1⟩
    walk_at "e"
    have hF5 := e5 _ _ hH
    refine s_bm hF5 ⟨⟨by omega, by omega⟩, by omega, ?_⟩
    have hnt5 : H5 nt = some (.tup (five.map V.str)) := e5 _ _ (ex_del _ _ (e3 _ _ hnt1))
    refine s_ixT hnt5 (nmF_at (z / 54) i) ?_
    refine s_nwT (by show 3 ≤ 100000; decide) fun t ht => ?_
    have nFt : F ≠ t := ne_new hF5 ht
    have et : Ex H5 (upd H5 t (.tup [V.str (nmF (z / 54) i), V.int (1 + r), V.int re])) := Ex.new ht
    refine s_apq (et _ _ hF5) (by omega) (hN _ _ ⟨us ++ [V.ref t], pts ++ [⟨nmF (z / 54) i, 1 + r, re⟩], _, _, _, rfl, ?_, upd_same, ?_, ?_, ?_⟩)
    · rw [del_upd]
      exact e3.trans (ex_del2 (e5.trans et))
    · rw [del_upd, List.map_append]
      refine (hdq.mono (ex_del2 (e5.trans et)) _).app (.one (.tup (vs := [V.str (nmF (z / 54) i), V.int (1 + r), V.int re]) ?_ (.cons (.str _) (.cons (.int _) (.cons (.int _) .nil)))))
      rw [del_ne (Ne.symm nFt), upd_same]
    · rw [List.map_append, hnm, List.range_succ, List.map_append]
      rfl
    · intro p hp
      rcases List.mem_append.mp hp with q | q
      · exact hpt p q
      · have : p = ⟨nmF (z / 54) i, 1 + r, re⟩ := by simpa using q
        rw [this]
        exact ⟨⟨by show 1 ≤ 1 + r; omega, by show 1 + r ≤ mo; omega⟩, hr0, hr1⟩
  · rintro σ H3 ⟨us, pts, v9, v10, v11, rfl, e3, hH, hdq, hnm, hpt⟩
    have hpl : pts.length = n := by
      have := congrArg List.length hnm
      rwa [List.length_map, List.length_map, List.length_range] at this
    walk_at "1"
    refine ⟨by decide, s_int1B ?_⟩
    walk_at "0"
    -- the week
    have h01 : (0 : Int) ≤ (if (decide (zt % 3 = 0)) = true then 1 else 0) ∧ (if (decide (zt % 3 = 0)) = true then (1 : Int) else 0) ≤ 1 := by split <;> omega
    generalize (if (decide (zt % 3 = 0)) = true then (1 : Int) else 0) = b01 at h01
    refine s_cut (fun σ H5 => ∃ wk : Int, σ = [some (.ref a), some (.int (f : Nat)), some (.int z), some (.int zo), some (.int zt), some (.int (n : Nat)), some (.int mo), some (.ref nt), some (.ref F), v9, v10, v11, some (.int wk), none] ∧ H5 = H3 ∧ 1 ≤ wk ∧ wk ≤ 3) ?_ ?_
    rotate_left
    · intro M hM
      walk_at "e"
      refine ⟨⟨by omega, by omega⟩, by omega, ?_⟩
      split
      · refine ⟨⟨by omega, by omega⟩, by omega, hM _ _ ⟨_, rfl, rfl, by omega, by omega⟩⟩
      · exact hM _ _ ⟨_, rfl, rfl, by omega, by omega⟩
    rintro σ H4 ⟨wk, rfl, rfl, hw1, hw3⟩
    refine s_cut (fun σ H5 => ∃ wk : Int, σ = [some (.ref a), some (.int (f : Nat)), some (.int z), some (.int zo), some (.int zt), some (.int (n : Nat)), some (.int mo), some (.ref nt), some (.ref F), v9, v10, v11, some (.int wk), none] ∧ H5 = H4 ∧ 1 ≤ wk ∧ wk ≤ 14 ∧ (z / 9 % 6 ≠ 4 → wk ≤ 3)) ?_ ?_
    rotate_left
    · intro M hM
      walk_at "e"
      refine ⟨⟨by omega, by omega⟩, by omega, ?_⟩
      by_cases h1 : z / 9 % 6 = 4
      · rw [if_pos h1]
        exact ⟨by omega, hM _ _ ⟨_, rfl, rfl, by omega, by omega, fun q => absurd h1 q⟩⟩
      · rw [if_neg h1]
        exact hM _ _ ⟨_, rfl, rfl, by omega, by omega, fun _ => hw3⟩
    rintro σ H5 ⟨wk, rfl, rfl, hw1, hw14, hwz⟩
    walk_at "1"
    refine s_cut (fun σ H6 => ∃ cl : Int, σ = [some (.ref a), some (.int (f : Nat)), some (.int z), some (.int zo), some (.int zt), some (.int (n : Nat)), some (.int mo), some (.ref nt), some (.ref F), v9, v10, v11, some (.int wk), some (.int cl)] ∧ H6 = H5 ∧ 0 ≤ cl ∧ cl < 2 ^ wk.toNat) ?_ ?_
    rotate_left
    · intro M hM
      have hp2 : (0 : Int) < 2 ^ wk.toNat := Int.pow_pos (by decide)
      walk_at "e"
      refine ⟨⟨by omega, by omega⟩, by omega, ?_⟩
      split
      · refine ⟨⟨by omega, by omega⟩, ⟨by omega, by omega, by decide⟩, by omega, hM _ _ ⟨_, rfl, rfl, Int.emod_nonneg _ (by omega), ?_⟩⟩
        have := Int.emod_lt_of_pos (zt / 216) (b := 1 * 2 ^ wk.toNat) (by omega)
        omega
      · exact hM _ _ ⟨0, rfl, rfl, Int.le_refl _, hp2⟩
    rintro σ H6 ⟨cl, rfl, rfl, hc0, hc1⟩
    walk_at "e"
    refine s_nwT (by show 6 ≤ 100000; decide) fun ct hct => ?_
    walk_at "e"
    obtain ⟨ca, ca0, ca3, hca⟩ := cans_at (j := zt / 5 % 6) (by omega) (by omega)
    refine ⟨⟨by omega, by omega⟩, by omega, s_ixT upd_same hca ?_⟩
    refine s_nwT (by show 4 ≤ 100000; decide) fun t ht => ?_
    have ec : Ex H6 (upd H6 ct (.tup [V.int 1, V.int 2, V.int 1, V.int 0, V.int 3, V.int 1])) := Ex.new hct
    have eall := ec.trans (Ex.new (o := .tup [V.ref F, V.int ca, V.int wk, V.int cl]) ht)
    have e06 : Ex H1 H6 := e1.trans (e3.trans ex_del)
    refine k t F us ⟨pts, ca, wk, cl⟩ _ (e06.trans eall) ?_ ⟨upd_same, eall _ _ hH, hdq.mono (ex_del.trans eall) _⟩
    refine ⟨by show 1 ≤ pts.length; omega, by show pts.length ≤ 3; omega, ?_, ?_, ?_, ?_, ⟨ca0, ca3⟩, ⟨hw1, hw14⟩, ⟨hc0, hc1⟩, ?_⟩
    · show (pts.map (·.name)).Nodup
      rw [hnm]
      exact nmF_nodup _ (by omega)
    · intro p hp
      have : p.name ∈ pts.map (·.name) := List.mem_map_of_mem hp
      rw [hnm] at this
      obtain ⟨j, _, hj⟩ := List.mem_map.mp this
      rw [← hj]
      exact nmF_mem _ _
    · intro p hp
      have := (hpt p hp).1
      omega
    · intro p hp
      exact (hpt p hp).2
    · show pts.foldl (fun b p => b * p.gap) wk ≤ 126
      have h1 := fold_le (m := mo) (by omega) (ps := pts) (w := wk) (by omega) fun p hp => ⟨by have := (hpt p hp).1; omega, ((hpt p hp).1).2⟩
      rw [hpl] at h1
      rcases hcm with ⟨hz, hn1, hm9⟩ | ⟨hz, hn1, hn3, hm2, hm3⟩
      · have : n = 1 := by omega
        subst this
        subst hm9
        have : wk * 9 ^ 1 = wk * 9 := by rfl
        omega
      · have hw := hwz hz
        have h27 : mo ^ n ≤ 27 := by
          have hmm : mo = 2 ∨ mo = 3 := by omega
          have hnn : n = 1 ∨ n = 2 ∨ n = 3 := by omega
          rcases hmm with rfl | rfl <;> rcases hnn with rfl | rfl | rfl <;> decide
        have : wk * mo ^ n ≤ wk * 27 := Int.mul_le_mul_of_nonneg_left h27 (by omega)
        omega
theorem ok_spec_L (T : Txt K mg) : Df P w K mg base CX0 2 "_law_spec" ["_law_script", "_law_first"] [] (spSpec K) := let ⟨fd, F⟩ := T.d_spec_L; mk_df F (fn_spec_L T F) T.g_spec_L (F.bindsN fun _ _ _ _ _ _ us hl => match us, hl with | [_, _], _ => rfl)
end
end Tk

set_option maxHeartbeats 4000000
/-! The law's garden, days and plans. -/
namespace Tk
open PySem PySem.Spec PyProof.Rows L2 He Evl
local macro_rules | `(tactic| walk_at "e") => `(tactic| (try simp only [a_seq, a_var0, a_varS, a_c, a_asg, a_name, a_set0, a_setS, a_ret, a_retN, a_ifS, a_drop, a_next, a_op, a_un, a_I0, a_I, a_U, a_bT, a_test, a_B, a_and, a_or, a_not, a_andV, a_orV, a_notV, a_if, a_isN, a_notN, a_nil, a_cons, a_CB, a_lst, a_tup, a_dget, a_din, a_dnotin, a_dput, a_newK, a_revL, a_getN, a_putN, a_newN, a_forL, a_forT, a_forR, a_lcL, a_lcR, a_yes, a_w0, a_w1, cx_K, cx_P, cx_w, a_eqI, a_neI, a_eqS, a_neS, a_call, a_callS, a_clsFn, a_meth, a_make, a_fld, a_fldS, a_BM, a_BM0, a_sl, a_noP, a_part, a_intP, a_gTup, a_gNil, a_gCons, a_gSub, a_ipI, a_ipMul, a_aug, a_augS, a_chain, m_and, m_or, a_xp, cxh_K, a_veI, a_ost, a_mkK, a_nn, not_false_eq_true, not_true_eq_false, Option.map_some, Option.map_none, Option.isSome_some, Option.isSome_none, List.map_cons, List.map_nil, true_and, and_true, true_or, or_true, false_and, and_false, false_or, or_false, if_true, if_false, Bool.false_eq_true, decide_eq_true_eq, Bool.not_eq_true, Bool.not_true, Bool.not_false, decide_eq_false_iff_not, Bool.not_eq_eq_eq_not, reduceCtorEq, Bool.true_eq_false, List.cons_append, List.nil_append, List.append_nil]))
local macro_rules | `(tactic| walk_at "1") => `(tactic| ((try simp only [a_var0, a_varS, a_c, a_asg, a_name, a_set0, a_setS, a_ret, a_retN, a_ifS, a_drop, a_next, a_op, a_un, a_I0, a_I, a_U, a_bT, a_test, a_B, a_and, a_or, a_not, a_andV, a_orV, a_notV, a_if, a_isN, a_notN, a_nil, a_cons, a_CB, a_lst, a_tup, a_dget, a_din, a_dnotin, a_dput, a_newK, a_revL, a_getN, a_putN, a_newN, a_forL, a_forT, a_forR, a_lcL, a_lcR, a_yes, a_w0, a_w1, cx_K, cx_P, cx_w, a_eqI, a_neI, a_eqS, a_neS, a_call, a_callS, a_clsFn, a_meth, a_make, a_fld, a_fldS, a_BM, a_BM0, a_sl, a_noP, a_part, a_intP, a_gTup, a_gNil, a_gCons, a_gSub, a_ipI, a_ipMul, a_aug, a_augS, a_chain, m_and, m_or, a_xp, cxh_K, a_veI, a_ost, a_mkK, a_nn, not_false_eq_true, not_true_eq_false, Option.map_some, Option.map_none, Option.isSome_some, Option.isSome_none, List.map_cons, List.map_nil, true_and, and_true, true_or, or_true, false_and, and_false, false_or, or_false, if_true, if_false, Bool.false_eq_true, decide_eq_true_eq, Bool.not_eq_true, Bool.not_true, Bool.not_false, decide_eq_false_iff_not, Bool.not_eq_eq_eq_not, reduceCtorEq, Bool.true_eq_false, List.cons_append, List.nil_append, List.append_nil]); rw [a_seq]; (try simp only [a_var0, a_varS, a_c, a_asg, a_name, a_set0, a_setS, a_ret, a_retN, a_ifS, a_drop, a_next, a_op, a_un, a_I0, a_I, a_U, a_bT, a_test, a_B, a_and, a_or, a_not, a_andV, a_orV, a_notV, a_if, a_isN, a_notN, a_nil, a_cons, a_CB, a_lst, a_tup, a_dget, a_din, a_dnotin, a_dput, a_newK, a_revL, a_getN, a_putN, a_newN, a_forL, a_forT, a_forR, a_lcL, a_lcR, a_yes, a_w0, a_w1, cx_K, cx_P, cx_w, a_eqI, a_neI, a_eqS, a_neS, a_call, a_callS, a_clsFn, a_meth, a_make, a_fld, a_fldS, a_BM, a_BM0, a_sl, a_noP, a_part, a_intP, a_gTup, a_gNil, a_gCons, a_gSub, a_ipI, a_ipMul, a_aug, a_augS, a_chain, m_and, m_or, a_xp, cxh_K, a_veI, a_ost, a_mkK, a_nn, not_false_eq_true, not_true_eq_false, Option.map_some, Option.map_none, Option.isSome_some, Option.isSome_none, List.map_cons, List.map_nil, true_and, and_true, true_or, or_true, false_and, and_false, false_or, or_false, if_true, if_false, Bool.false_eq_true, decide_eq_true_eq, Bool.not_eq_true, Bool.not_true, Bool.not_false, decide_eq_false_iff_not, Bool.not_eq_eq_eq_not, reduceCtorEq, Bool.true_eq_false, List.cons_append, List.nil_append, List.append_nil])))
local macro_rules | `(tactic| walk_at "0") => `(tactic| (try simp only [a_var0, a_varS, a_c, a_asg, a_name, a_set0, a_setS, a_ret, a_retN, a_ifS, a_drop, a_next, a_op, a_un, a_I0, a_I, a_U, a_bT, a_test, a_B, a_and, a_or, a_not, a_andV, a_orV, a_notV, a_if, a_isN, a_notN, a_nil, a_cons, a_CB, a_lst, a_tup, a_dget, a_din, a_dnotin, a_dput, a_newK, a_revL, a_getN, a_putN, a_newN, a_forL, a_forT, a_forR, a_lcL, a_lcR, a_yes, a_w0, a_w1, cx_K, cx_P, cx_w, a_eqI, a_neI, a_eqS, a_neS, a_call, a_callS, a_clsFn, a_meth, a_make, a_fld, a_fldS, a_BM, a_BM0, a_sl, a_noP, a_part, a_intP, a_gTup, a_gNil, a_gCons, a_gSub, a_ipI, a_ipMul, a_aug, a_augS, a_chain, m_and, m_or, a_xp, cxh_K, a_veI, a_ost, a_mkK, a_nn, not_false_eq_true, not_true_eq_false, Option.map_some, Option.map_none, Option.isSome_some, Option.isSome_none, List.map_cons, List.map_nil, true_and, and_true, true_or, or_true, false_and, and_false, false_or, or_false, if_true, if_false, Bool.false_eq_true, decide_eq_true_eq, Bool.not_eq_true, Bool.not_true, Bool.not_false, decide_eq_false_iff_not, Bool.not_eq_eq_eq_not, reduceCtorEq, Bool.true_eq_false, List.cons_append, List.nil_append, List.append_nil]))
section
variable {P : Program} {w : World} {K : PySem.W.Frag} {mg : Str → Option Value} {base : Heap}
/-- a made object: what stood, stands -/
theorem made_ex {H H' : Hp} {x dx C : Addr} (hx : H x = none) (hd : H dx = none) (h : ∀ b, b ≠ x → H' b = upd (upd H dx (.own x)) x (.ins C dx []) b) : Ex H H' := fun b o hb => by
  have h1 : b ≠ x := ne_of_none hb hx
  have h2 : b ≠ dx := ne_of_none hb hd
  rw [h b h1, upd_ne h1, upd_ne h2]
  exact hb
def spGardenL (K : PySem.W.Frag) : Sp := fun vs H Q _ => ∃ (a l : Addr) (us : List V) (g : Gd), vs = [.ref a] ∧ SpIn H a l us g ∧ g.Ok ∧ ∀ (p l' d : Addr) (ps : List V) (H' : Hp), Ex H H' → GdIn K H' p l' d ps g → Q (.ref p) H'
theorem sc_garden_L : FnScope ["_law_spec_here", "_law_pots", "_law_name", "_law_gap", "_law_rest"] ["_law_spec_here"] (defScope s_garden_L) := ⟨rfl, rfl, rfl, by decide +kernel, rfl, by decide +kernel, by decide +kernel⟩
theorem st_garden_L (p0 : V) : start ["_law_spec_here", "_law_pots", "_law_name", "_law_gap", "_law_rest"] [p0] = [some p0, none, none, none, none] := rfl
theorem fn_garden_L (T : Txt K mg) {fd : FuncData} (F : FunD K "_law_garden" "_law_garden" (defArgs s_garden_L) (defBody s_garden_L) (defScope s_garden_L) [] [] (ga K "_law_garden") fd) : FnOk P w K mg base CX0 6 (ga K "_law_garden") fd ["_law_spec_here"] (spGardenL K) := by
  refine F.ok (CX := CX0) (k := 5) sc_garden_L (fun vs H Q E h => ?L) (fun cdv A outer s H vs Q E hr h => ?B)
  case L => first | (obtain ⟨_, rfl, _⟩ := h; rfl) | (obtain ⟨_, _, rfl, _⟩ := h; rfl) | (obtain ⟨_, _, _, rfl, _⟩ := h; rfl) | (obtain ⟨_, _, _, _, rfl, _⟩ := h; rfl) | (obtain ⟨_, _, _, _, _, rfl, _⟩ := h; rfl) | (obtain ⟨_, _, _, _, _, _, rfl, _⟩ := h; rfl) | (obtain ⟨_, _, _, _, _, _, _, rfl, _⟩ := h; rfl) | (obtain ⟨_, _, _, _, _, _, _, _, rfl, _⟩ := h; rfl) | (obtain ⟨_, _, _, _, _, _, _, _, _, rfl, _⟩ := h; rfl) | (obtain ⟨_, _, _, _, _, _, _, _, _, _, rfl, _⟩ := h; rfl) | (obtain ⟨_, _, _, _, _, _, _, _, _, _, _, rfl, _⟩ := h; rfl) | (obtain ⟨_, _, _, _, _, _, _, _, _, _, _, _, rfl, _⟩ := h; rfl) | (obtain ⟨_, _, _, _, _, _, _, _, _, _, _, _, _, rfl, _⟩ := h; rfl)
  case B =>
  refine ⟨_, PSs.nox ((pss_cons (ps_set (i := 1) sc_garden_L.nd rfl (Or.inl rfl) (pe_lst pa_nil))
      (pss_cons (ps_for PassesOwn.never rfl (pi_list (pe_ix ix_tup (pv 0) pe_int (fun _ _ => rfl))) (pg_tup rfl (pgs_cons (pg_name (i := 2) sc_garden_L.nd rfl (Or.inl rfl)) (pgs_cons (pg_name (i := 3) sc_garden_L.nd rfl (Or.inl rfl)) (pgs_cons (pg_name (i := 4) sc_garden_L.nd rfl (Or.inl rfl)) pgs_nil))))
      (pss_one (ps_if (pt_cmpR op_lt (pv 4) pe_int (nomark _)) (pss_one (ps_expr (pe_bm PySem.F.plainAttrs_list PySem.F.slot_list_append PySem.F.type_list_append mt_append (pv 1) (pa_cons (pe_ck (ok_Pot_init T) (hr.mono (by decide)) rfl pass0 (pa_cons (pv 2) (pa_cons (pv 3) pa_nil))) pa_nil))))
      (pss_one (ps_expr (pe_bm PySem.F.plainAttrs_list PySem.F.slot_list_append PySem.F.type_list_append mt_append (pv 1) (pa_cons (pe_ck (ok_Cactus_init T) (hr.mono (by decide)) rfl pass0 (pa_cons (pv 2) (pa_cons (pv 3) (pa_cons (pv 4) pa_nil)))) pa_nil)))))))
      (pss_one (ps_ret (pe_ck (ok_Garden_init_5 T) (hr.mono (by decide)) rfl pass0 (pa_cons (pv 1) (pa_cons (pe_ix ix_tup (pv 0) pe_int (fun _ _ => rfl)) (pa_cons (pe_ix ix_tup (pv 0) pe_int (fun _ _ => rfl)) (pa_cons (pe_ix ix_tup (pv 0) pe_int (fun _ _ => rfl)) pa_nil)))))))))), ?_⟩
  obtain ⟨a, l, us, g, rfl, hS, ok, k⟩ := h
  rw [st_garden_L]
  walk_at "1"
  have hn3 := ok.n3
  refine s_nil fun F hF => ?_
  have eF : Ex H (upd H F (.lst [])) := Ex.new hF
  walk_at "1"
  have i0 : atI [V.ref l, V.int g.cans, V.int g.week, V.int g.closed] 0 = some (.ref l) := rfl
  refine s_ixT (eF _ _ hS.tup) i0 ?_
  refine s_forL (eF _ _ hS.lst) (fun i σ H1 => ∃ (ws : List V) (v2 v3 v4 : Option V), σ = [some (.ref a), some (.ref F), v2, v3, v4] ∧ Ex H (del H1 F) ∧ H1 F = some (.lst ws) ∧ Paired (PotAt K (del H1 F)) ws (g.pots.take i))
    ⟨[], none, none, none, rfl, ex_into eF hF, upd_same, .nil⟩ (fun i σ H1 _ ⟨_, _, _, _, _, e, _⟩ => ex_del _ _ (e _ _ hS.lst)) ?_ ?_
  · rintro N i x σ H1 hx ⟨ws, v2, v3, v4, rfl, e, hH, hps⟩ hN
    have hi : i < g.pots.length := by rw [← hS.len]; exact (List.getElem?_eq_some_iff.mp hx).1
    obtain ⟨p, hp⟩ : ∃ p, g.pots[i]? = some p := ⟨_, List.getElem?_eq_getElem hi⟩
    obtain ⟨t, ht, hT⟩ := hS.pot hp
    rw [hx] at ht
    cases ht
    have hws : ws.length = i := by rw [Paired.length hps, List.length_take]; omega
    have e1 : Ex H H1 := e.trans ex_del
    have gp := ok.gap p (List.mem_of_getElem? hp)
    have rp := ok.rest p (List.mem_of_getElem? hp)
    have np := ok.nm p (List.mem_of_getElem? hp)
    have fin : ∀ (x : Addr) (H2 : Hp), H1 x = none → Ex H1 H2 → PotAt K H2 (.ref x) p → ∀ v2 v3 v4, N [some (.ref a), some (.ref F), v2, v3, v4] (upd H2 F (.lst (ws ++ [V.ref x]))) := fun x H2 hx e2 hP v2 v3 v4 => by
      have nFx : x ≠ F := fun z => by rw [z, hH] at hx; cases hx
      refine hN _ _ ⟨ws ++ [.ref x], v2, v3, v4, rfl, ?_, upd_same, ?_⟩
      · rw [del_upd]
        exact e.trans (ex_del2 e2)
      · rw [del_upd, take_succ hp]
        refine pair_app (pairM (fun v q h => h.mono (ex_del2 e2)) hps) (.cons ?_ .nil)
        cases hP with
        | pot h hr => exact .pot (by rw [del_ne nFx]; exact h) hr
        | cac h hr => exact .cac (by rw [del_ne nFx]; exact h) hr
    walk_at "e"
    refine s_tupG (e1 _ _ hT) rfl ?_
    walk_at "e"
    by_cases hr0 : p.rest < 0
    · rw [if_pos hr0]
      refine s_bm hH ?_
      refine fun y dy hy hdy hne => ⟨y, _, dy, p.name, p.gap, rfl, upd_same, .inl rfl, np, ⟨gp.1, by omega⟩, fun H2 h1 h2 => ⟨rfl, ?_⟩⟩
      have e2 := made_ex hy hdy h2
      walk_at "e"
      exact s_apq (e2 _ _ hH) (by omega) (fin y H2 hy e2 (.pot h1 hr0) _ _ _)
    · rw [if_neg hr0]
      refine s_bm hH ?_
      refine fun y dy hy hdy hne => ⟨y, dy, p.name, p.gap, p.rest, rfl, upd_same, np, ⟨gp.1, by omega⟩, ⟨by omega, rp.2⟩, fun H2 h1 h2 => ⟨rfl, ?_⟩⟩
      have e2 := made_ex hy hdy h2
      walk_at "e"
      exact s_apq (e2 _ _ hH) (by omega) (fin y H2 hy e2 (.cac h1 (by omega)) _ _ _)
  · rintro σ H1 ⟨ws, v2, v3, v4, rfl, e, hH, hps⟩
    rw [hS.len, List.take_length] at hps
    have e1 : Ex H H1 := e.trans ex_del
    walk_at "e"
    refine s_ixT (e1 _ _ hS.tup) (v := .int g.cans) rfl ?_
    walk_at "e"
    refine s_ixT (e1 _ _ hS.tup) (v := .int g.week) rfl ?_
    walk_at "e"
    refine s_ixT (e1 _ _ hS.tup) (v := .int g.closed) rfl ?_
    walk_at "e"
    intro y dy hy hdy hne
    have eM : Ex H1 (upd (upd H1 dy (.own y)) y (.ins (ga K "Garden") dy [])) := made_ex hy hdy fun b _ => rfl
    refine ⟨y, dy, F, ws, g, rfl, upd_same, eM _ _ hH, pairM (fun v q h => (h.mono ex_del).mono eM) hps, ok, fun l' d' H2 h2 hG => ⟨rfl, ?_⟩⟩
    refine k y l' d' ws H2 (e1.trans fun b o hb => h2 b o (eM b o hb) (ne_of_none hb hy)) hG
theorem ok_garden_L (T : Txt K mg) : Df P w K mg base CX0 6 "_law_garden" ["_law_spec_here"] [] (spGardenL K) := let ⟨fd, F⟩ := T.d_garden_L; mk_df F (fn_garden_L T F) T.g_garden_L (F.bindsN fun _ _ _ _ _ _ us hl => match us, hl with | [_], _ => rfl)
theorem inV_nat (i : Nat) (ws : List Nat) : inV (.int (i : Nat)) (ws.map fun (k : Nat) => V.int k) = decide (i ∈ ws) := by
  unfold inV
  induction ws with
  | nil => rfl
  | cons w ws ih =>
    rw [List.map_cons, List.any_cons, ih]
    by_cases h : w = i
    · subst h
      simp [eqV]
    · have h' : ¬ i = w := fun z => h z.symm
      have h2 : ¬ ((w : Nat) : Int) = ((i : Nat) : Int) := by omega
      simp [eqV, h, h', h2]
theorem flat_nats (ws : List Nat) : (ws.map fun (k : Nat) => V.int k).all flatV = true := by
  rw [List.all_eq_true]
  intro x hx
  obtain ⟨k, _, rfl⟩ := List.mem_map.mp hx
  rfl
theorem dq_nats {H : Hp} (ws : List Nat) : DqAll H (ws.map fun (k : Nat) => V.int k) (ws.map fun (k : Nat) => PyData.int k) := by
  induction ws with
  | nil => exact .nil
  | cons w ws ih => exact .cons (.int _) ih
theorem nats_shaped (ws : List Nat) : SeqAt.shaped (.list (ws.map fun (k : Nat) => PyData.int k)) = true := shaped_lay (list_lay (n := 0) fun d hd => by
  obtain ⟨k, _, rfl⟩ := List.mem_map.mp hd
  exact ⟨by simp [PyData.canLay0], by simp [PyData.depth]⟩) (by decide)
theorem allowed_ws {g : Gd} {st : Stt} {ws : List Nat} (hlt : ∀ k ∈ ws, k < g.pots.length) : allowedM g st (wetOf ws) ws.length = (!decide (0 < ws.length ∧ (closedB g st.1 = true ∨ g.cans < (ws.length : Int))) && decide (∀ k ∈ ws, restAt g k ≤ sinceAt st k)) := by
  unfold allowedM
  by_cases h : 0 < ws.length ∧ (closedB g st.1 = true ∨ g.cans < (ws.length : Int))
  · rw [decide_eq_true h, if_pos]
    · rfl
    · rw [decide_eq_true h.1, Bool.true_and]
      rcases h.2 with q | q
      · rw [q]; rfl
      · rw [decide_eq_true q]; simp
  · rw [decide_eq_false h, if_neg]
    · by_cases q : ∀ k ∈ ws, restAt g k ≤ sinceAt st k
      · rw [decide_eq_true q]
        refine List.all_eq_true.mpr fun k hk => ?_
        by_cases hb : k ∈ ws
        · simp [wetOf, hb, q k hb]
        · simp [wetOf, hb]
      · rw [decide_eq_false q]
        refine Bool.eq_false_iff.mpr fun z => q fun k hk => ?_
        have := List.all_eq_true.mp z k (List.mem_range.mpr (hlt k hk))
        simpa [wetOf, hk] using this
    · intro z
      obtain ⟨z1, z2⟩ := Bool.and_eq_true_iff.mp z
      refine h ⟨of_decide_eq_true z1, ?_⟩
      rcases Bool.or_eq_true_iff.mp z2 with q | q
      · exact .inl q
      · exact .inr (of_decide_eq_true q)
def spBehindL : Sp := fun vs H Q _ => ∃ (a l wl : Addr) (us : List V) (g : Gd) (v : V) (st : Stt) (ws : List Nat), vs = [.ref a, v, .ref wl] ∧ SpIn H a l us g ∧ g.Ok ∧ StA H v st ∧ StOk g st ∧ H wl = some (.lst (ws.map fun (k : Nat) => V.int k)) ∧ (∀ k ∈ ws, k < g.pots.length) ∧ ws.length ≤ 1000 ∧
  (allowedM g st (wetOf ws) ws.length = false → ∀ H', Ex H H' → Q .non H') ∧ (allowedM g st (wetOf ws) ws.length = true → ∀ i, dryM g st (wetOf ws) = some i → ∀ H', Ex H H' → Q (.str (nameAt g i)) H') ∧
  (allowedM g st (wetOf ws) ws.length = true → dryM g st (wetOf ws) = none → ∀ v' H', Ex H H' → StA H' v' (nextM g st (wetOf ws)) → Q v' H')
theorem sc_behind_L : FnScope ["_law_spec_here", "_law_state", "_law_wet", "_law_pots", "_law_cans", "_law_week", "_law_closed", "_law_day", "_law_since", "_law_k", "_law_found", "_law_far"] ["_law_spec_here", "_law_state", "_law_wet"] (defScope s_behind_L) := ⟨rfl, rfl, rfl, by decide +kernel, rfl, by decide +kernel, by decide +kernel⟩
theorem st_behind_L (p0 p1 p2 : V) : start ["_law_spec_here", "_law_state", "_law_wet", "_law_pots", "_law_cans", "_law_week", "_law_closed", "_law_day", "_law_since", "_law_k", "_law_found", "_law_far"] [p0, p1, p2] = [some p0, some p1, some p2, none, none, none, none, none, none, none, none, none] := rfl
theorem fn_behind_L (T : Txt K mg) {fd : FuncData} (F : FunD K "_law_behind" "_law_behind" (defArgs s_behind_L) (defBody s_behind_L) (defScope s_behind_L) [] [] (ga K "_law_behind") fd) : FnOk P w K mg base CX0 1 (ga K "_law_behind") fd ["_law_spec_here", "_law_state", "_law_wet"] spBehindL := by
  refine F.ok (CX := CX0) (k := 0) sc_behind_L (fun vs H Q E h => ?L) (fun cdv A outer s H vs Q E hr h => ?B)
  case L => first | (obtain ⟨_, rfl, _⟩ := h; rfl) | (obtain ⟨_, _, rfl, _⟩ := h; rfl) | (obtain ⟨_, _, _, rfl, _⟩ := h; rfl) | (obtain ⟨_, _, _, _, rfl, _⟩ := h; rfl) | (obtain ⟨_, _, _, _, _, rfl, _⟩ := h; rfl) | (obtain ⟨_, _, _, _, _, _, rfl, _⟩ := h; rfl) | (obtain ⟨_, _, _, _, _, _, _, rfl, _⟩ := h; rfl) | (obtain ⟨_, _, _, _, _, _, _, _, rfl, _⟩ := h; rfl) | (obtain ⟨_, _, _, _, _, _, _, _, _, rfl, _⟩ := h; rfl) | (obtain ⟨_, _, _, _, _, _, _, _, _, _, rfl, _⟩ := h; rfl) | (obtain ⟨_, _, _, _, _, _, _, _, _, _, _, rfl, _⟩ := h; rfl) | (obtain ⟨_, _, _, _, _, _, _, _, _, _, _, _, rfl, _⟩ := h; rfl) | (obtain ⟨_, _, _, _, _, _, _, _, _, _, _, _, _, rfl, _⟩ := h; rfl)
  case B =>
  refine ⟨_, PSs.nox ((pss_cons (ps_asg (pv 0) (pg_tup rfl (pgs_cons (pg_name (i := 3) sc_behind_L.nd rfl (Or.inl rfl)) (pgs_cons (pg_name (i := 4) sc_behind_L.nd rfl (Or.inl rfl)) (pgs_cons (pg_name (i := 5) sc_behind_L.nd rfl (Or.inl rfl)) (pgs_cons (pg_name (i := 6) sc_behind_L.nd rfl (Or.inl rfl)) pgs_nil))))))
      (pss_cons (ps_asg (pv 1) (pg_tup rfl (pgs_cons (pg_name (i := 7) sc_behind_L.nd rfl (Or.inl rfl)) (pgs_cons (pg_name (i := 8) sc_behind_L.nd rfl (Or.inl rfl)) pgs_nil))))
      (pss_cons (ps_if (PW.pt (pw_and (pt_cmpR (op_neD (hu_64 hr)) (pv 2) (pe_lst pa_nil) (nomark _)) (pw_and1 (PW.pt (pw_or (pt_cmpR op_eq (pe_op op_and (pe_op op_shr (pv 6) (pv 7)) pe_int) pe_int (nomark _)) (pw_or1 (pt_cmpR op_gt (pe_callB call_lenQ (by rfl) T.f_len (by decide +kernel) (pa_cons (pv 2) pa_nil)) (pv 4) (nomark _)))))))) (pss_one (ps_ret pe_non))
      pss_nil)
      (pss_cons (ps_for PassesOwn.never rfl (pi_list (pv 2)) (pg_name (i := 9) sc_behind_L.nd rfl (Or.inl rfl))
      (pss_one (ps_if (pt_cmpR op_lt (pe_ix ix_tup (pv 8) (pv 9) (fun _ _ => rfl)) (pe_ix ix_tup (pe_ix ix_list (pv 3) (pv 9) (fun _ _ => rfl)) pe_int (fun _ _ => rfl)) (nomark _)) (pss_one (ps_ret pe_non))
      pss_nil)))
      (pss_cons (ps_set (i := 10) sc_behind_L.nd rfl (Or.inl rfl) (pe_lst pa_nil))
      (pss_cons (ps_for PassesOwn.never rfl (pi_range1 rfl T.f_range (pa_cons (pe_callB call_lenQ (by rfl) T.f_len (by decide +kernel) (pa_cons (pv 3) pa_nil)) pa_nil)) (pg_name (i := 9) sc_behind_L.nd rfl (Or.inl rfl))
      (pss_cons (ps_set (i := 11) sc_behind_L.nd rfl (Or.inl rfl) (pe_ifExp (pt_cmpR op_in_seq (pv 9) (pv 2) (by rfl)) pe_int (pe_op op_add (pe_ix ix_tup (pv 8) (pv 9) (fun _ _ => rfl)) pe_int)))
      (pss_cons (ps_if (pt_cmpR op_eq (pv 11) (pe_ix ix_tup (pe_ix ix_list (pv 3) (pv 9) (fun _ _ => rfl)) pe_int (fun _ _ => rfl)) (nomark _)) (pss_one (ps_ret (pe_ix ix_tup (pe_ix ix_list (pv 3) (pv 9) (fun _ _ => rfl)) pe_int (fun _ _ => rfl))))
      pss_nil)
      (pss_one (ps_expr (pe_bm PySem.F.plainAttrs_list PySem.F.slot_list_append PySem.F.type_list_append mt_append (pv 10) (pa_cons (pv 11) pa_nil)))))))
      (pss_one (ps_ret (pe_tup (pa_cons (pe_op op_mod (pe_op op_add (pv 7) pe_int) (pv 5)) (pa_cons (pe_callTy call_tupO (by rfl) T.f_tuple (by decide +kernel) (pa_cons (pv 10) pa_nil)) pa_nil)))))))))))), ?_⟩
  obtain ⟨a, l, wl, us, g, v, st, ws, rfl, hS, ok, ⟨s1, s2, rfl, h1, h2⟩, hs, hw, hlt, hwl, kN, kD, kO⟩ := h
  have hn3 := ok.n3
  have hlen := hs.2.2.len
  have hal := allowed_ws (g := g) (st := st) (ws := ws) hlt
  rw [st_behind_L]
  walk_at "1"
  refine s_tupG hS.tup rfl ?_
  walk_at "1"
  refine s_tupG h1 rfl ?_
  walk_at "0"
  refine s_cut (fun σ H' => σ = [some (.ref a), some (.ref s1), some (.ref wl), some (.ref l), some (.int g.cans), some (.int g.week), some (.int g.closed), some (.int st.1), some (.ref s2), none, none, none] ∧ Ex H H' ∧ ¬ (0 < ws.length ∧ (closedB g st.1 = true ∨ g.cans < (ws.length : Int)))) ?_ ?_
  rotate_left
  · intro N hN
    walk_at "e"
    refine s_nil fun z hz => ?_
    have ez : Ex H (upd H z (.lst [])) := Ex.new hz
    refine s_neN (l := ws.map fun (k : Nat) => PyData.int k) (.lst (ez _ _ hw) (dq_nats ws)) (nats_shaped ws) upd_same ?_
    walk_at "e"
    have stop : 0 < ws.length → (closedB g st.1 = true ∨ g.cans < (ws.length : Int)) → Q .non (upd H z (.lst [])) := fun q1 q2 => kN (by rw [hal, decide_eq_true (And.intro q1 q2)]; rfl) _ ez
    by_cases h0 : List.map (fun (k : Nat) => PyData.int k) ws = []
    · rw [if_neg (fun q => q h0)]
      refine hN _ _ ⟨rfl, ez, fun q => ?_⟩
      have : ws = [] := List.map_eq_nil_iff.mp h0
      rw [this] at q
      exact absurd q.1 (by decide)
    · rw [if_pos h0]
      have hpos : 0 < ws.length := List.length_pos_iff.mpr fun q => h0 (by rw [q]; rfl)
      refine ⟨hs.1, ?_⟩
      by_cases hcl : closedB g st.1 = true
      · rw [if_pos (of_decide_eq_true hcl)]
        exact stop hpos (.inl hcl)
      · rw [if_neg (fun q => hcl (decide_eq_true q))]
        refine s_lenL (ez _ _ hw) ?_
        walk_at "e"
        rw [List.length_map]
        by_cases hm : g.cans < ((ws.length : Nat) : Int)
        · rw [if_pos hm]
          exact stop hpos (.inr hm)
        · rw [if_neg hm]
          exact hN _ _ ⟨rfl, ez, fun q => q.2.elim hcl hm⟩
  rintro σ H1 ⟨rfl, e1, hnc⟩
  rw [decide_eq_false hnc] at hal
  walk_at "1"
  refine s_forL (e1 _ _ hw) (fun i σ H2 => ∃ v9, σ = [some (.ref a), some (.ref s1), some (.ref wl), some (.ref l), some (.int g.cans), some (.int g.week), some (.int g.closed), some (.int st.1), some (.ref s2), v9, none, none] ∧ H2 = H1 ∧ ∀ j, j < i → ∀ k, ws[j]? = some k → restAt g k ≤ sinceAt st k)
    ⟨none, rfl, rfl, fun j hj => absurd hj (Nat.not_lt_zero j)⟩ (fun i σ H2 _ ⟨_, _, z, _⟩ => by rw [z]; exact e1 _ _ hw) ?_ ?_
  · rintro N i x σ H2 hx ⟨v9, rfl, rfl, hall⟩ hN
    rw [List.getElem?_map] at hx
    obtain ⟨k0, hk0, rfl⟩ := Option.map_eq_some_iff.mp hx
    have hkn := hlt k0 (List.mem_of_getElem? hk0)
    obtain ⟨p, hp⟩ : ∃ p, g.pots[k0]? = some p := ⟨_, List.getElem?_eq_getElem hkn⟩
    obtain ⟨y, hy, y0, y1⟩ := hs.2.2.at_ hp
    obtain ⟨t, ht, hT⟩ := hS.pot hp
    have er : restAt g k0 = p.rest := by unfold restAt; rw [getD_of hp]
    have es : sinceAt st k0 = y := getD_of hy
    have hy' : atI (st.2.map V.int) ((k0 : Nat) : Int) = some (.int y) := at_nat (by rw [List.getElem?_map, hy]; rfl)
    walk_at "e"
    refine s_ixT (e1 _ _ h2) hy' (s_ixL (e1 _ _ hS.lst) (at_nat ht) (s_ixT (e1 _ _ hT) (v := .int p.rest) rfl ?_))
    walk_at "e"
    by_cases hq : y < p.rest
    · rw [if_pos hq]
      refine kN ?_ _ e1
      rw [hal, decide_eq_false (fun q => by have := q k0 (List.mem_of_getElem? hk0); omega)]
      rfl
    · rw [if_neg hq]
      refine hN _ _ ⟨_, rfl, rfl, fun j hj k hk => ?_⟩
      rcases Nat.lt_or_ge j i with z | z
      · exact hall j z k hk
      · have ej : j = i := by omega
        subst ej
        rw [hk0] at hk
        cases hk
        omega
  · rintro σ H2 ⟨v9, rfl, rfl, hall⟩
    rw [List.length_map] at hall
    have halt : allowedM g st (wetOf ws) ws.length = true := by
      rw [hal, decide_eq_true (fun k hk => by
        obtain ⟨j, hj⟩ := List.mem_iff_getElem?.mp hk
        exact hall j (List.getElem?_eq_some_iff.mp hj).1 k hj)]
      rfl
    walk_at "1"
    refine s_nil fun F hF => ?_
    have hF0 : H F = none := fresh_back e1 hF
    have eF : Ex H (upd H2 F (.lst [])) := e1.trans (Ex.new hF)
    walk_at "1"
    refine s_lenL (eF _ _ hS.lst) ?_
    rw [hS.len]
    refine s_forR (by omega) (fun i σ H3 => ∃ v9 v11, σ = [some (.ref a), some (.ref s1), some (.ref wl), some (.ref l), some (.int g.cans), some (.int g.week), some (.int g.closed), some (.int st.1), some (.ref s2), v9, some (.ref F), v11] ∧ Ex H H3 ∧ H3 F = some (.lst (((nextL st.2 (wetOf ws)).take i).map V.int)) ∧ ∀ j, j < i → dryP g st (wetOf ws) j = false)
      ⟨v9, none, rfl, eF, upd_same, fun j hj => absurd hj (Nat.not_lt_zero j)⟩ ?_ ?_
    · rintro N i σ H3 hi ⟨v9, v11, rfl, e, hH, hnd⟩ hN
      obtain ⟨p, hp⟩ : ∃ p, g.pots[i]? = some p := ⟨_, List.getElem?_eq_getElem hi⟩
      obtain ⟨y, hy, y0, y1⟩ := hs.2.2.at_ hp
      obtain ⟨t, ht, hT⟩ := hS.pot hp
      have gp := ok.gap p (List.mem_of_getElem? hp)
      have eg : gapAt g i = p.gap := by unfold gapAt; rw [getD_of hp]
      have es : sinceAt st i = y := getD_of hy
      have en : nameAt g i = p.name := by unfold nameAt; rw [getD_of hp]
      have hy' : atI (st.2.map V.int) ((i : Nat) : Int) = some (.int y) := at_nat (by rw [List.getElem?_map, hy]; rfl)
      have hnx := nextL_at (w := wetOf ws) hy
      have hll : ((nextL st.2 (wetOf ws)).take i).length < 100000 := by rw [List.length_take]; omega
      have fin : ∀ z : Int, (nextL st.2 (wetOf ws))[i]? = some z → dryP g st (wetOf ws) i = false → ∀ v9 v11, N [some (.ref a), some (.ref s1), some (.ref wl), some (.ref l), some (.int g.cans), some (.int g.week), some (.int g.closed), some (.int st.1), some (.ref s2), v9, some (.ref F), v11]
          (upd H3 F (.lst (((nextL st.2 (wetOf ws)).take i).map V.int ++ [V.int z]))) := fun z hz hd v9 v11 =>
        hN _ _ ⟨v9, v11, rfl, e.mut hF0, by rw [upd_same, take_succ hz, List.map_append]; rfl, fun j hj => by
          rcases Nat.lt_or_ge j i with q | q
          · exact hnd j q
          · have ej : j = i := by omega
            subst ej
            exact hd⟩
      walk_at "1"
      refine ⟨wl, _, rfl, .inl (SqL.of (e _ _ hw)), rfl, flat_nats ws, ?_⟩
      rw [inV_nat]
      by_cases hb : i ∈ ws
      · rw [decide_eq_true hb]
        walk_at "e"
        refine s_ixL (e _ _ hS.lst) (at_nat ht) (s_ixT (e _ _ hT) (v := .int p.gap) rfl ?_)
        walk_at "e"
        rw [if_neg (by omega)]
        exact s_app hH (by rw [List.length_map]; exact hll) (fin 0 (by rw [hnx]; exact congrArg some (if_pos (decide_eq_true hb))) (by unfold dryP wetOf; rw [decide_eq_true hb]; rfl) _ _)
      · rw [decide_eq_false hb]
        walk_at "e"
        refine s_ixT (e _ _ h2) hy' ?_
        walk_at "e"
        refine s_ixL (e _ _ hS.lst) (at_nat ht) (s_ixT (e _ _ hT) (v := .int p.gap) rfl ?_)
        walk_at "e"
        by_cases hq : y + 1 = p.gap
        · rw [if_pos hq]
          refine s_ixL (e _ _ hS.lst) (at_nat ht) (s_ixT (e _ _ hT) (v := .str p.name) rfl ?_)
          rw [← en]
          exact kD halt i (dry_some hi (by unfold dryP wetOf; rw [decide_eq_false hb, es, eg, decide_eq_true hq]; rfl) hnd) _ e
        · rw [if_neg hq]
          exact s_app hH (by rw [List.length_map]; exact hll) (fin (y + 1) (by rw [hnx]; exact congrArg some (if_neg (by rw [wetOf, decide_eq_false hb]; decide))) (by unfold dryP wetOf; rw [decide_eq_false hb, es, eg, decide_eq_false hq]; rfl) _ _)
    · rintro σ H3 ⟨v9, v11, rfl, e, hH, hnd⟩
      walk_at "e"
      have w0 := ok.w0
      refine ⟨by omega, s_tupL hH fun t ht => ?_⟩
      walk_at "e"
      refine s_nwT (by show 2 ≤ 100000; decide) fun r hr => ?_
      refine kO halt (dry_none fun j hj => hnd j hj) _ _ (ex_upd (ex_upd e ht) hr) ⟨r, t, rfl, upd_same, ?_⟩
      rw [upd_ne (ne_new upd_same hr), upd_same]
      have : (nextL st.2 (wetOf ws)).length = st.2.length := by unfold nextL; rw [List.length_mapIdx]
      rw [← hlen, ← this, List.take_length]
      rfl
theorem ok_behind_L (T : Txt K mg) : Df P w K mg base CX0 1 "_law_behind" ["_law_spec_here", "_law_state", "_law_wet"] [] spBehindL := let ⟨fd, F⟩ := T.d_behind_L; mk_df F (fn_behind_L T F) T.g_behind_L (F.bindsN fun _ _ _ _ _ _ us hl => match us, hl with | [_, _, _], _ => rfl)
end
end Tk

set_option maxHeartbeats 4000000
/-! The law's choices and plans. -/
namespace Tk
open PySem PySem.Spec PyProof.Rows L2 He Evl
local macro_rules | `(tactic| walk_at "e") => `(tactic| (try simp only [a_seq, a_var0, a_varS, a_c, a_asg, a_name, a_set0, a_setS, a_ret, a_retN, a_ifS, a_drop, a_next, a_op, a_un, a_I0, a_I, a_U, a_bT, a_test, a_B, a_and, a_or, a_not, a_andV, a_orV, a_notV, a_if, a_isN, a_notN, a_nil, a_cons, a_CB, a_lst, a_tup, a_dget, a_din, a_dnotin, a_dput, a_newK, a_revL, a_getN, a_putN, a_newN, a_forL, a_forT, a_forR, a_lcL, a_lcR, a_yes, a_w0, a_w1, cx_K, cx_P, cx_w, a_eqI, a_neI, a_eqS, a_neS, a_call, a_callS, a_clsFn, a_meth, a_make, a_fld, a_fldS, a_BM, a_BM0, a_sl, a_noP, a_part, a_intP, a_gTup, a_gNil, a_gCons, a_gSub, a_ipI, a_ipMul, a_aug, a_augS, a_chain, m_and, m_or, a_xp, cxh_K, a_veI, a_ost, a_mkK, a_nn, not_false_eq_true, not_true_eq_false, Option.map_some, Option.map_none, Option.isSome_some, Option.isSome_none, List.map_cons, List.map_nil, true_and, and_true, true_or, or_true, false_and, and_false, false_or, or_false, if_true, if_false, Bool.false_eq_true, decide_eq_true_eq, Bool.not_eq_true, Bool.not_true, Bool.not_false, decide_eq_false_iff_not, Bool.not_eq_eq_eq_not, reduceCtorEq, Bool.true_eq_false, List.cons_append, List.nil_append, List.append_nil]))
local macro_rules | `(tactic| walk_at "1") => `(tactic| ((try simp only [a_var0, a_varS, a_c, a_asg, a_name, a_set0, a_setS, a_ret, a_retN, a_ifS, a_drop, a_next, a_op, a_un, a_I0, a_I, a_U, a_bT, a_test, a_B, a_and, a_or, a_not, a_andV, a_orV, a_notV, a_if, a_isN, a_notN, a_nil, a_cons, a_CB, a_lst, a_tup, a_dget, a_din, a_dnotin, a_dput, a_newK, a_revL, a_getN, a_putN, a_newN, a_forL, a_forT, a_forR, a_lcL, a_lcR, a_yes, a_w0, a_w1, cx_K, cx_P, cx_w, a_eqI, a_neI, a_eqS, a_neS, a_call, a_callS, a_clsFn, a_meth, a_make, a_fld, a_fldS, a_BM, a_BM0, a_sl, a_noP, a_part, a_intP, a_gTup, a_gNil, a_gCons, a_gSub, a_ipI, a_ipMul, a_aug, a_augS, a_chain, m_and, m_or, a_xp, cxh_K, a_veI, a_ost, a_mkK, a_nn, not_false_eq_true, not_true_eq_false, Option.map_some, Option.map_none, Option.isSome_some, Option.isSome_none, List.map_cons, List.map_nil, true_and, and_true, true_or, or_true, false_and, and_false, false_or, or_false, if_true, if_false, Bool.false_eq_true, decide_eq_true_eq, Bool.not_eq_true, Bool.not_true, Bool.not_false, decide_eq_false_iff_not, Bool.not_eq_eq_eq_not, reduceCtorEq, Bool.true_eq_false, List.cons_append, List.nil_append, List.append_nil]); rw [a_seq]; (try simp only [a_var0, a_varS, a_c, a_asg, a_name, a_set0, a_setS, a_ret, a_retN, a_ifS, a_drop, a_next, a_op, a_un, a_I0, a_I, a_U, a_bT, a_test, a_B, a_and, a_or, a_not, a_andV, a_orV, a_notV, a_if, a_isN, a_notN, a_nil, a_cons, a_CB, a_lst, a_tup, a_dget, a_din, a_dnotin, a_dput, a_newK, a_revL, a_getN, a_putN, a_newN, a_forL, a_forT, a_forR, a_lcL, a_lcR, a_yes, a_w0, a_w1, cx_K, cx_P, cx_w, a_eqI, a_neI, a_eqS, a_neS, a_call, a_callS, a_clsFn, a_meth, a_make, a_fld, a_fldS, a_BM, a_BM0, a_sl, a_noP, a_part, a_intP, a_gTup, a_gNil, a_gCons, a_gSub, a_ipI, a_ipMul, a_aug, a_augS, a_chain, m_and, m_or, a_xp, cxh_K, a_veI, a_ost, a_mkK, a_nn, not_false_eq_true, not_true_eq_false, Option.map_some, Option.map_none, Option.isSome_some, Option.isSome_none, List.map_cons, List.map_nil, true_and, and_true, true_or, or_true, false_and, and_false, false_or, or_false, if_true, if_false, Bool.false_eq_true, decide_eq_true_eq, Bool.not_eq_true, Bool.not_true, Bool.not_false, decide_eq_false_iff_not, Bool.not_eq_eq_eq_not, reduceCtorEq, Bool.true_eq_false, List.cons_append, List.nil_append, List.append_nil])))
local macro_rules | `(tactic| walk_at "0") => `(tactic| (try simp only [a_var0, a_varS, a_c, a_asg, a_name, a_set0, a_setS, a_ret, a_retN, a_ifS, a_drop, a_next, a_op, a_un, a_I0, a_I, a_U, a_bT, a_test, a_B, a_and, a_or, a_not, a_andV, a_orV, a_notV, a_if, a_isN, a_notN, a_nil, a_cons, a_CB, a_lst, a_tup, a_dget, a_din, a_dnotin, a_dput, a_newK, a_revL, a_getN, a_putN, a_newN, a_forL, a_forT, a_forR, a_lcL, a_lcR, a_yes, a_w0, a_w1, cx_K, cx_P, cx_w, a_eqI, a_neI, a_eqS, a_neS, a_call, a_callS, a_clsFn, a_meth, a_make, a_fld, a_fldS, a_BM, a_BM0, a_sl, a_noP, a_part, a_intP, a_gTup, a_gNil, a_gCons, a_gSub, a_ipI, a_ipMul, a_aug, a_augS, a_chain, m_and, m_or, a_xp, cxh_K, a_veI, a_ost, a_mkK, a_nn, not_false_eq_true, not_true_eq_false, Option.map_some, Option.map_none, Option.isSome_some, Option.isSome_none, List.map_cons, List.map_nil, true_and, and_true, true_or, or_true, false_and, and_false, false_or, or_false, if_true, if_false, Bool.false_eq_true, decide_eq_true_eq, Bool.not_eq_true, Bool.not_true, Bool.not_false, decide_eq_false_iff_not, Bool.not_eq_eq_eq_not, reduceCtorEq, Bool.true_eq_false, List.cons_append, List.nil_append, List.append_nil]))
section
variable {P : Program} {w : World} {K : PySem.W.Frag} {mg : Str → Option Value} {base : Heap}
def bitsTo (c n : Nat) : List Nat := (List.range n).filter fun k => c.testBit k
theorem bitsTo_succ (c n : Nat) : bitsTo c (n + 1) = bitsTo c n ++ (if c.testBit n = true then [n] else []) := by
  unfold bitsTo
  rw [List.range_succ, List.filter_append]
  congr 1
  by_cases h : c.testBit n = true
  · rw [if_pos h]; simp [h]
  · rw [if_neg h]; simp [h]
def spStepsL : Sp := fun vs H Q _ => ∃ (a l : Addr) (us : List V) (g : Gd) (v : V) (st : Stt), vs = [.ref a, v] ∧ SpIn H a l us g ∧ g.Ok ∧ StA H v st ∧ StOk g st ∧
  ∀ (p : Addr) (us : List V) (H' : Hp), Ex H H' → H' p = some (.lst us) → us.length ≤ 8 → ChIn g H' us → Q (.ref p) H'
theorem sc_steps_L : FnScope ["_law_spec_here", "_law_state", "_law_found", "_law_chosen", "_law_wet", "_law_ahead", "_law_k"] ["_law_spec_here", "_law_state"] (defScope s_steps_L) := ⟨rfl, rfl, rfl, by decide +kernel, rfl, by decide +kernel, by decide +kernel⟩
theorem st_steps_L (p0 p1 : V) : start ["_law_spec_here", "_law_state", "_law_found", "_law_chosen", "_law_wet", "_law_ahead", "_law_k"] [p0, p1] = [some p0, some p1, none, none, none, none, none] := rfl
theorem fn_steps_L (T : Txt K mg) {fd : FuncData} (F : FunD K "_law_steps" "_law_steps" (defArgs s_steps_L) (defBody s_steps_L) (defScope s_steps_L) [] [] (ga K "_law_steps") fd) : FnOk P w K mg base CX0 2 (ga K "_law_steps") fd ["_law_spec_here", "_law_state"] spStepsL := by
  refine F.ok (CX := CX0) (k := 1) sc_steps_L (fun vs H Q E h => ?L) (fun cdv A outer s H vs Q E hr h => ?B)
  case L => first | (obtain ⟨_, rfl, _⟩ := h; rfl) | (obtain ⟨_, _, rfl, _⟩ := h; rfl) | (obtain ⟨_, _, _, rfl, _⟩ := h; rfl) | (obtain ⟨_, _, _, _, rfl, _⟩ := h; rfl) | (obtain ⟨_, _, _, _, _, rfl, _⟩ := h; rfl) | (obtain ⟨_, _, _, _, _, _, rfl, _⟩ := h; rfl) | (obtain ⟨_, _, _, _, _, _, _, rfl, _⟩ := h; rfl) | (obtain ⟨_, _, _, _, _, _, _, _, rfl, _⟩ := h; rfl) | (obtain ⟨_, _, _, _, _, _, _, _, _, rfl, _⟩ := h; rfl) | (obtain ⟨_, _, _, _, _, _, _, _, _, _, rfl, _⟩ := h; rfl) | (obtain ⟨_, _, _, _, _, _, _, _, _, _, _, rfl, _⟩ := h; rfl) | (obtain ⟨_, _, _, _, _, _, _, _, _, _, _, _, rfl, _⟩ := h; rfl) | (obtain ⟨_, _, _, _, _, _, _, _, _, _, _, _, _, rfl, _⟩ := h; rfl)
  case B =>
  refine ⟨_, PSs.nox ((pss_cons (ps_set (i := 2) sc_steps_L.nd rfl (Or.inl rfl) (pe_lst pa_nil))
      (pss_cons (ps_for PassesOwn.never rfl (pi_range1 rfl T.f_range (pa_cons (pe_op op_shl pe_int (pe_callB call_lenQ (by rfl) T.f_len (by decide +kernel) (pa_cons (pe_ix ix_tup (pv 0) pe_int (fun _ _ => rfl)) pa_nil))) pa_nil)) (pg_name (i := 3) sc_steps_L.nd rfl (Or.inr rfl))
      (pss_cons (ps_setLc (i := 4) (own := [("_law_k", 6)]) (g := (gName 6)) (tt := (tTest (tOp _ (tOp _ (tOp _ (tVar 3) (tVar 6)) (tC (.int 1))) (tC (.int 1))))) (te := (tVar 6)) rfl sc_steps_L.nd rfl rfl (sw_true rfl rfl rfl (by decide +kernel)) (pi_range1 rfl T.f_range (pa_cons (pe_callB call_lenQ (by rfl) T.f_len (by decide +kernel) (pa_cons (pe_ix ix_tup (pv 0) pe_int (fun _ _ => rfl)) pa_nil)) pa_nil)) (blkOk_by (own := [("_law_k", 6)]) (N := ["_law_spec_here", "_law_state", "_law_found", "_law_chosen", "_law_wet", "_law_ahead", "_law_k"]) (sc := defScope s_steps_L) (by decide +kernel)) (fun _ _ _ _ _ => (pg_name (i := 6) sc_steps_L.nd rfl (Or.inl rfl))) (fun _ _ _ _ _ => (pts_one (pt_cmpR op_eq (pe_op op_and (pe_op op_shr (pv 3) (pv 6)) pe_int) pe_int (nomark _)))) (fun _ _ _ _ _ => (pv 6)))
      (pss_cons (ps_set (i := 5) sc_steps_L.nd rfl (Or.inl rfl) (pe_df (ok_behind_L T) (hr.mono (by decide)) rfl pass0 (pa_cons (pv 0) (pa_cons (pv 1) (pa_cons (pv 4) pa_nil)))))
      (pss_one (ps_if (pt_val (pe_callB call_isi (by rfl) T.f_isinstance (by decide +kernel) (pa_cons (pv 5) (pa_cons (pe_bltn (v := .ty "tuple") (u := .type "tuple") (by rfl) T.f_tuple (by decide +kernel) rfl) pa_nil)))) (pss_one (ps_expr (pe_bm PySem.F.plainAttrs_list PySem.F.slot_list_append PySem.F.type_list_append mt_append (pv 2) (pa_cons (pe_tup (pa_cons (pv 3) (pa_cons (pv 5) pa_nil))) pa_nil))))
      pss_nil)))))
      (pss_one (ps_ret (pv 2)))))), ?_⟩
  obtain ⟨a, l, us0, g, v, st, rfl, hS, ok, hst, hs, k⟩ := h
  have hn3 := ok.n3
  rw [st_steps_L]
  walk_at "1"
  refine s_nil fun F hF => ?_
  have e0 : Ex H (upd H F (.lst [])) := Ex.new hF
  walk_at "1"
  have i0 : atI [V.ref l, V.int g.cans, V.int g.week, V.int g.closed] 0 = some (.ref l) := rfl
  refine s_ixT (e0 _ _ hS.tup) i0 (s_lenL (e0 _ _ hS.lst) ?_)
  walk_at "0"
  rw [hS.len]
  refine ⟨⟨by omega, by omega, by decide⟩, ?_⟩
  rw [shl_n]
  have h8 : 2 ^ g.pots.length ≤ 8 := Nat.le_trans (Nat.pow_le_pow_right (by decide) hn3) (by decide)
  refine s_forR (by omega) (fun i σ H1 => ∃ us v3 v4 v5, σ = [some (.ref a), some v, some (.ref F), v3, v4, v5, none] ∧ Ex H (del H1 F) ∧ H1 F = some (.lst us) ∧ us.length ≤ i ∧ ChIn g (del H1 F) us)
    ⟨[], none, none, none, rfl, ex_into e0 hF, upd_same, Nat.le_refl _, fun u hu => by cases hu⟩ ?_ ?_
  · rintro N i σ H1 hi ⟨us, v3, v4, v5, rfl, e, hH, hl, hch⟩ hN
    have e1 : Ex H H1 := e.trans ex_del
    walk_at "1"
    refine s_ixT (e1 _ _ hS.tup) i0 (s_lenL (e1 _ _ hS.lst) ?_)
    walk_at "0"
    rw [hS.len]
    refine s_lcR (by omega) (fun j acc H2 => acc = (bitsTo i j).map fun (k : Nat) => V.int k) rfl ?_ ?_
    · rintro j acc D H2 hD hj h1 h2 e2 rfl
      walk_at "e"
      refine ⟨by omega, ?_⟩
      by_cases hb : i.testBit j = true
      · rw [if_pos ((bit1 i j).mpr hb)]
        exact lc_y (by omega) h1 h2 e2 (Ex.refl _) (by rw [bitsTo_succ, if_pos hb, List.map_append]; rfl)
      · rw [if_neg (fun q => hb ((bit1 i j).mp q))]
        exact lc_n h1 h2 e2 (Ex.refl _) (by rw [bitsTo_succ, if_neg hb, List.append_nil])
    · rintro W H2 acc hW h1 h2 e2 rfl
      have e12 : Ex H1 H2 := e2.trans ex_del
      have eH2 := e1.trans e12
      have skip : ∀ H3 v3 v4 v5, Ex H2 H3 → N [some (.ref a), some v, some (.ref F), v3, v4, v5, none] H3 := fun H3 v3 v4 v5 e3 => hN _ _ ⟨us, v3, v4, v5, rfl, e.trans (ex_del2 (e12.trans e3)), (e12.trans e3) _ _ hH, by omega, hch.mono (ex_del2 (e12.trans e3))⟩
      walk_at "1"
      refine ⟨a, l, W, us0, g, v, st, bitsTo i g.pots.length, rfl, hS.mono eH2, ok, hst.mono eH2, hs, h1, fun k hk => List.mem_range.mp (List.mem_filter.mp hk).1, ?_, fun _ H3 e3 => ?_, fun _ j hj H3 e3 => ?_, fun _ hj v' H3 e3 hv' => ?_⟩
      · have := List.length_filter_le (fun k => i.testBit k) (List.range g.pots.length)
        rw [List.length_range] at this
        unfold bitsTo
        omega
      · walk_at "e"
        refine s_isiN (b := false) (by decide +kernel) (bT_of ?_)
        walk_at "e"
        exact skip _ _ _ _ e3
      · walk_at "e"
        refine s_isiS (b := false) (by decide +kernel) (bT_of ?_)
        walk_at "e"
        exact skip _ _ _ _ e3
      · obtain ⟨z1, z2, rfl, hz1, hz2⟩ := id hv'
        walk_at "e"
        refine s_isiT hz1 (b := true) (by decide +kernel) (bT_of ?_)
        walk_at "e"
        have hF3 := (e12.trans e3) _ _ hH
        refine s_bm hF3 ?_
        refine s_nwT (by show 2 ≤ 100000; decide) fun t ht => ?_
        have nFt : F ≠ t := ne_new hF3 ht
        have e4 : Ex H3 (upd H3 t (.tup [V.int ((i : Nat) : Int), V.ref z1])) := Ex.new ht
        have e14 := (e12.trans e3).trans e4
        refine s_apq (e4 _ _ hF3) (by omega) (hN _ _ ⟨us ++ [V.ref t], _, _, _, rfl, ?_, upd_same, by simp; omega, ?_⟩)
        · rw [del_upd]
          exact e.trans (ex_del2 e14)
        · rw [del_upd]
          intro u hu
          rcases List.mem_append.mp hu with z | z
          · exact (hch.mono (ex_del2 e14)) u z
          · have eu : u = V.ref t := by simpa using z
            have nz1 : z1 ≠ F := fun q => by rw [q, hF3] at hz1; cases hz1
            have nz2 : z2 ≠ F := fun q => by rw [q, hF3] at hz2; cases hz2
            refine ⟨t, i, .ref z1, _, eu, ?_, hi, ⟨z1, z2, rfl, ?_, ?_⟩, next_ok ok hs hj⟩
            · rw [del_ne (Ne.symm nFt), upd_same]
            · rw [del_ne nz1]
              exact e4 _ _ hz1
            · rw [del_ne nz2]
              exact e4 _ _ hz2
  · rintro σ H1 ⟨us, v3, v4, v5, rfl, e, hH, hl, hch⟩
    walk_at "e"
    exact k F us H1 (e.trans ex_del) hH (by omega) (hch.mono ex_del)
theorem ok_steps_L (T : Txt K mg) : Df P w K mg base CX0 2 "_law_steps" ["_law_spec_here", "_law_state"] [] spStepsL := let ⟨fd, F⟩ := T.d_steps_L; mk_df F (fn_steps_L T F) T.g_steps_L (F.bindsN fun _ _ _ _ _ _ us hl => match us, hl with | [_, _], _ => rfl)
/-! ### plans -/
def WalkV (H : Hp) (t : Addr) : Out → Prop
  | .none d => H t = some (.tup [.str "none", .int d])
  | .bad d => H t = some (.tup [.str "bad", .int d])
  | .dry d n => H t = some (.tup [.str "dry", .int d, .str n])
  | .kept st => ∃ v, H t = some (.tup [.str "kept", v]) ∧ StA H v st
theorem WalkV.mono {H H' : Hp} (e : Ex H H') {t : Addr} {o : Out} (h : WalkV H t o) : WalkV H' t o := by
  cases o with
  | none d => exact e _ _ h
  | bad d => exact e _ _ h
  | dry d n => exact e _ _ h
  | kept st => exact let ⟨v, h1, h2⟩ := h; ⟨v, e _ _ h1, h2.mono e⟩
def wetL (g : Gd) (row : List PyData) : List Nat := row.filterMap (placeOf g)
theorem wetL_some {g : Gd} : ∀ {row : List PyData} {ws : List Nat}, placesM g row = some ws → wetL g row = ws
  | [], ws, h => by
    cases (show some [] = some ws from h)
    rfl
  | d :: r, ws, h => by
    unfold placesM at h
    cases h1 : placeOf g d with
    | none => rw [h1] at h; cases h
    | some j =>
      cases h2 : placesM g r with
      | none => rw [h1, h2] at h; cases h
      | some js =>
        rw [h1, h2] at h
        cases h
        unfold wetL
        rw [List.filterMap_cons, h1]
        exact congrArg (j :: ·) (wetL_some h2)
theorem wetL_len (g : Gd) (row : List PyData) : (wetL g row).length ≤ row.length := List.length_filterMap_le _ _
theorem wetL_none {g : Gd} : ∀ {row : List PyData}, placesM g row = none → (wetL g row).length < row.length
  | d :: r, h => by
    have hl := wetL_len g r
    unfold placesM at h
    unfold wetL at hl ⊢
    rw [List.filterMap_cons]
    cases h1 : placeOf g d with
    | none =>
      simp only [List.length_cons]
      omega
    | some j =>
      cases h2 : placesM g r with
      | none =>
        have := wetL_none h2
        unfold wetL at this
        simp only [List.length_cons]
        omega
      | some js => rw [h1, h2] at h; cases h
theorem places_len {g : Gd} : ∀ {row : List PyData} {ws : List Nat}, placesM g row = some ws → ws.length = row.length
  | [], ws, h => by
    cases (show some [] = some ws from h)
    rfl
  | d :: r, ws, h => by
    unfold placesM at h
    cases h1 : placeOf g d with
    | none => rw [h1] at h; cases h
    | some j =>
      cases h2 : placesM g r with
      | none => rw [h1, h2] at h; cases h
      | some js =>
        rw [h1, h2] at h
        cases h
        simp only [List.length_cons, places_len h2]
theorem dup_short : ∀ {ws : List Nat}, ¬ ws.Nodup → ∃ w2 : List Nat, w2.length < ws.length ∧ ∀ x ∈ ws, x ∈ w2
  | [], h => absurd List.nodup_nil h
  | k :: ks, h => by
    by_cases hk : k ∈ ks
    · exact ⟨ks, by simp, fun x hx => by
        rcases List.mem_cons.mp hx with z | z
        · rw [z]; exact hk
        · exact z⟩
    · obtain ⟨w2, h1, h2⟩ := dup_short (ws := ks) fun q => h (List.nodup_cons.mpr ⟨hk, q⟩)
      exact ⟨k :: w2, by simp only [List.length_cons]; omega, fun x hx => by
        rcases List.mem_cons.mp hx with z | z
        · rw [z]; exact List.mem_cons_self
        · exact List.mem_cons_of_mem _ (h2 x z)⟩
def inL (n : Nat) (ws : List Nat) : List Nat := (List.range n).filter fun k => decide (k ∈ ws)
theorem inL_succ (n : Nat) (ws : List Nat) : inL (n + 1) ws = inL n ws ++ (if n ∈ ws then [n] else []) := by
  unfold inL
  rw [List.range_succ, List.filter_append]
  congr 1
  by_cases h : n ∈ ws
  · rw [if_pos h]; simp [h]
  · rw [if_neg h]; simp [h]
theorem inL_lt {n : Nat} {ws : List Nat} (hlt : ∀ k ∈ ws, k < n) : (inL n ws).length < ws.length ↔ nodupB ws = false := by
  have hn : (inL n ws).Nodup := List.nodup_range.sublist List.filter_sublist
  constructor
  · intro h
    cases q : nodupB ws with
    | false => rfl
    | true =>
      have := nodup_le ((nodupB_iff ws).mp q) (m := inL n ws) fun x hx => List.mem_filter.mpr ⟨List.mem_range.mpr (hlt x hx), decide_eq_true hx⟩
      omega
  · intro h
    obtain ⟨w2, h1, h2⟩ := dup_short (ws := ws) fun q => by
      rw [(nodupB_iff ws).mpr q] at h
      cases h
    have := nodup_le hn (m := w2) fun x hx => h2 x (of_decide_eq_true (List.mem_filter.mp hx).2)
    omega
def namesD (g : Gd) : List PyData := g.pots.map fun p => PyData.str p.name
theorem eqv_str (x y : Str) : PyData.eqv (.str x) (.str y) = decide (x = y) := by
  simp [PyData.eqv, Bool.beq_eq_decide_eq]
theorem names_any : ∀ (ps : List Pt) {d : PyData}, NameD d → ((ps.map fun p => PyData.str p.name).any fun z => PyData.eqv z d) = (match d with
    | .str s => nameIx ps s
    | _ => none).isSome
  | [], d, h => by
    rcases h with ⟨s, _, rfl⟩ | rfl | rfl | rfl <;> rfl
  | p :: ps, d, h => by
    have ih := names_any ps h
    rw [List.map_cons, List.any_cons, ih]
    rcases h with ⟨s, _, rfl⟩ | rfl | rfl | rfl
    · rw [eqv_str]
      show (decide (p.name = s) || (nameIx ps s).isSome) = (nameIx (p :: ps) s).isSome
      by_cases h : p.name = s
      · rw [decide_eq_true h]
        unfold nameIx
        rw [if_pos h]
        rfl
      · rw [decide_eq_false h]
        have : nameIx (p :: ps) s = (nameIx ps s).map (· + 1) := by
          conv => lhs; unfold nameIx
          rw [if_neg h]
        rw [this]
        cases nameIx ps s <;> rfl
    · simp [PyData.eqv]
    · simp [PyData.eqv]
    · simp [PyData.eqv]
theorem place_any (g : Gd) {d : PyData} (h : NameD d) : ((namesD g).any fun z => PyData.eqv z d) = (placeOf g d).isSome := by
  unfold namesD
  rw [names_any g.pots h]
  rcases h with ⟨s, _, rfl⟩ | rfl | rfl | rfl <;> rfl
theorem names_shaped {g : Gd} (ok : g.Ok) : SeqAt.shaped (.list (namesD g)) = true := shaped_lay (list_lay (n := 0) fun d hd => by
  obtain ⟨p, hp, rfl⟩ := List.mem_map.mp hd
  have : ∀ n ∈ five, PyData.strOk n = true := by decide +kernel
  exact ⟨by simp [PyData.canLay0, this _ (ok.nm p hp)], by simp [PyData.depth]⟩) (by decide)
theorem dq_names {H : Hp} (ps : List Pt) : DqAll H (ps.map fun p => V.str p.name) (ps.map fun p => PyData.str p.name) := by
  induction ps with
  | nil => exact .nil
  | cons w ws ih => exact .cons (.str _) ih
theorem name_shaped {d : PyData} (h : NameD d) : SeqAt.shaped d = true := shaped_lay (nameD_lay h) (by decide)
/-- [name for name, gap, rest in spec[0]] : a comprehension's turn -/
def nmV (g : Gd) : List V := g.pots.map fun p => V.str p.name
def spWalkedL : Sp := fun vs H Q _ => ∃ (a l : Addr) (us : List V) (g : Gd) (rv sv : V) (rows : List (List PyData)) (st : Stt) (first : Int), vs = [.ref a, rv, sv, .int first] ∧ SpIn H a l us g ∧ g.Ok ∧ Dq H rv (.list (rows.map .list)) ∧ RowsD rows ∧ StA H sv st ∧ StOk g st ∧
  ∀ (t : Addr) (H' : Hp), Ex H H' → WalkV H' t (walkM g rows st first) → Q (.ref t) H'
theorem sc_walked_L : FnScope ["_law_spec_here", "_law_rows_here", "_law_state", "_law_first", "_law_names", "_law_k", "_law_wet", "_law_ahead", "_law_name", "_law_gap", "_law_rest"] ["_law_spec_here", "_law_rows_here", "_law_state", "_law_first"] (defScope s_walked_L) := ⟨rfl, rfl, rfl, by decide +kernel, rfl, by decide +kernel, by decide +kernel⟩
theorem st_walked_L (p0 p1 p2 p3 : V) : start ["_law_spec_here", "_law_rows_here", "_law_state", "_law_first", "_law_names", "_law_k", "_law_wet", "_law_ahead", "_law_name", "_law_gap", "_law_rest"] [p0, p1, p2, p3] = [some p0, some p1, some p2, some p3, none, none, none, none, none, none, none] := rfl
theorem fn_walked_L (T : Txt K mg) {fd : FuncData} (F : FunD K "_law_walked" "_law_walked" (defArgs s_walked_L) (defBody s_walked_L) (defScope s_walked_L) [] [] (ga K "_law_walked") fd) : FnOk P w K mg base CX0 2 (ga K "_law_walked") fd ["_law_spec_here", "_law_rows_here", "_law_state", "_law_first"] spWalkedL := by
  refine F.ok (CX := CX0) (k := 1) sc_walked_L (fun vs H Q E h => ?L) (fun cdv A outer s H vs Q E hr h => ?B)
  case L => first | (obtain ⟨_, rfl, _⟩ := h; rfl) | (obtain ⟨_, _, rfl, _⟩ := h; rfl) | (obtain ⟨_, _, _, rfl, _⟩ := h; rfl) | (obtain ⟨_, _, _, _, rfl, _⟩ := h; rfl) | (obtain ⟨_, _, _, _, _, rfl, _⟩ := h; rfl) | (obtain ⟨_, _, _, _, _, _, rfl, _⟩ := h; rfl) | (obtain ⟨_, _, _, _, _, _, _, rfl, _⟩ := h; rfl) | (obtain ⟨_, _, _, _, _, _, _, _, rfl, _⟩ := h; rfl) | (obtain ⟨_, _, _, _, _, _, _, _, _, rfl, _⟩ := h; rfl) | (obtain ⟨_, _, _, _, _, _, _, _, _, _, rfl, _⟩ := h; rfl) | (obtain ⟨_, _, _, _, _, _, _, _, _, _, _, rfl, _⟩ := h; rfl) | (obtain ⟨_, _, _, _, _, _, _, _, _, _, _, _, rfl, _⟩ := h; rfl) | (obtain ⟨_, _, _, _, _, _, _, _, _, _, _, _, _, rfl, _⟩ := h; rfl)
  case B =>
  refine ⟨_, PSs.nox ((pss_cons (ps_set (i := 4) sc_walked_L.nd rfl (Or.inr rfl) (pe_lc (own := [("_law_name", 8), ("_law_gap", 9), ("_law_rest", 10)]) (g := (gTup K 3 (gCons (gName 8) (gCons (gName 9) (gCons (gName 10) gNil))))) (tt := tYes) (te := (tVar 8)) rfl sc_walked_L.nd (pi_list (pe_ix ix_tup (pv 0) pe_int (fun _ _ => rfl))) (blkOk_by (own := [("_law_name", 8), ("_law_gap", 9), ("_law_rest", 10)]) (N := ["_law_spec_here", "_law_rows_here", "_law_state", "_law_first", "_law_names", "_law_k", "_law_wet", "_law_ahead", "_law_name", "_law_gap", "_law_rest"]) (sc := defScope s_walked_L) (by decide +kernel)) (fun _ _ _ _ _ => (pg_tup rfl (pgs_cons (pg_name (i := 8) sc_walked_L.nd rfl (Or.inl rfl)) (pgs_cons (pg_name (i := 9) sc_walked_L.nd rfl (Or.inl rfl)) (pgs_cons (pg_name (i := 10) sc_walked_L.nd rfl (Or.inl rfl)) pgs_nil))))) (fun _ _ _ _ _ => pts_nil) (fun _ _ _ _ _ => (pv 8))))
      (pss_cons (ps_for PassesOwn.never rfl (pi_range1 rfl T.f_range (pa_cons (pe_callB call_lenQ (by rfl) T.f_len (by decide +kernel) (pa_cons (pv 1) pa_nil)) pa_nil)) (pg_name (i := 5) sc_walked_L.nd rfl (Or.inl rfl))
      (pss_cons (ps_set (i := 6) sc_walked_L.nd rfl (Or.inr rfl) (pe_lc (own := [("_law_name", 8)]) (g := (gName 8)) (tt := (tTest (tOp (rInD K) (tVar 8) (tVar 4)))) (te := (tBM K "list" (rIndexD K) (tVar 4) (tCons (tVar 8) tNil))) rfl sc_walked_L.nd (pi_list (pe_ix ix_list (pv 1) (pv 5) (fun _ _ => rfl))) (blkOk_by (own := [("_law_name", 8)]) (N := ["_law_spec_here", "_law_rows_here", "_law_state", "_law_first", "_law_names", "_law_k", "_law_wet", "_law_ahead", "_law_name", "_law_gap", "_law_rest"]) (sc := defScope s_walked_L) (by decide +kernel)) (fun _ _ _ _ _ => (pg_name (i := 8) sc_walked_L.nd rfl (Or.inl rfl))) (fun _ _ _ _ _ => (pts_one (pt_cmpR (op_inD (hu_65 hr)) (pv 8) (pv 4) (by rfl)))) (fun _ _ _ _ _ => (pe_bm PySem.F.plainAttrs_list PySem.F.slot_list_index PySem.F.type_list_index (mt_indexD (hu_65 hr)) (pv 4) (pa_cons (pv 8) pa_nil)))))
      (pss_cons (ps_if (pt_cmpR op_lt (pe_callB call_lenQ (by rfl) T.f_len (by decide +kernel) (pa_cons (pv 6) pa_nil)) (pe_callB call_lenQ (by rfl) T.f_len (by decide +kernel) (pa_cons (pe_ix ix_list (pv 1) (pv 5) (fun _ _ => rfl)) pa_nil)) (nomark _)) (pss_one (ps_ret (pe_tup (pa_cons pe_str (pa_cons (pe_op op_add (pv 3) (pv 5)) pa_nil)))))
      pss_nil)
      (pss_cons (ps_if (pt_cmpR op_lt (pe_callB call_lenQ (by rfl) T.f_len (by decide +kernel) (pa_cons (pe_lc (own := [("_law_k", 5)]) (g := (gName 5)) (tt := (tTest (tOp (rIn K false) (tVar 5) (tVar 6)))) (te := (tVar 5)) rfl sc_walked_L.nd (pi_range1 rfl T.f_range (pa_cons (pe_callB call_lenQ (by rfl) T.f_len (by decide +kernel) (pa_cons (pv 4) pa_nil)) pa_nil)) (blkOk_by (own := [("_law_k", 5)]) (N := ["_law_spec_here", "_law_rows_here", "_law_state", "_law_first", "_law_names", "_law_k", "_law_wet", "_law_ahead", "_law_name", "_law_gap", "_law_rest"]) (sc := defScope s_walked_L) (by decide +kernel)) (fun _ _ _ _ _ => (pg_name (i := 5) sc_walked_L.nd rfl (Or.inl rfl))) (fun _ _ _ _ _ => (pts_one (pt_cmpR op_in_seq (pv 5) (pv 6) (by rfl)))) (fun _ _ _ _ _ => (pv 5))) pa_nil)) (pe_callB call_lenQ (by rfl) T.f_len (by decide +kernel) (pa_cons (pv 6) pa_nil)) (nomark _)) (pss_one (ps_ret (pe_tup (pa_cons pe_str (pa_cons (pe_op op_add (pv 3) (pv 5)) pa_nil)))))
      pss_nil)
      (pss_cons (ps_set (i := 7) sc_walked_L.nd rfl (Or.inl rfl) (pe_df (ok_behind_L T) (hr.mono (by decide)) rfl pass0 (pa_cons (pv 0) (pa_cons (pv 2) (pa_cons (pv 6) pa_nil)))))
      (pss_cons (ps_if (pt_cmpR op_isN (pv 7) pe_non (nomark _)) (pss_one (ps_ret (pe_tup (pa_cons pe_str (pa_cons (pe_op op_add (pv 3) (pv 5)) pa_nil)))))
      pss_nil)
      (pss_cons (ps_if (pt_not (pt_val (pe_callB call_isi (by rfl) T.f_isinstance (by decide +kernel) (pa_cons (pv 7) (pa_cons (pe_bltn (v := .ty "tuple") (u := .type "tuple") (by rfl) T.f_tuple (by decide +kernel) rfl) pa_nil))))) (pss_one (ps_ret (pe_tup (pa_cons pe_str (pa_cons (pe_op op_add (pv 3) (pv 5)) (pa_cons (pv 7) pa_nil))))))
      pss_nil)
      (pss_one (ps_set (i := 2) sc_walked_L.nd rfl (Or.inl rfl) (pv 7))))))))))
      (pss_one (ps_ret (pe_tup (pa_cons pe_str (pa_cons (pv 2) pa_nil)))))))), ?_⟩
  obtain ⟨a, l, us, g, rv, sv, rows, st, first, rfl, hS, ok, hrv, hrows, hst, hs, k⟩ := h
  have hn3 := ok.n3
  cases hrv with
  | lst hra hrall =>
  rename_i ra rvs
  have hrl : rvs.length = rows.length := by rw [hrall.len, List.length_map]
  have hrw := hrows.1
  rw [st_walked_L]
  walk_at "1"
  have i0 : atI [V.ref l, V.int g.cans, V.int g.week, V.int g.closed] 0 = some (.ref l) := rfl
  refine s_ixT hS.tup i0 ?_
  refine s_lcL hS.lst (fun i acc H1 => acc = (g.pots.take i).map fun p => V.str p.name) rfl ?_ ?_
  · rintro i x acc D H1 hD hx h1 h2 e rfl
    have hi : i < g.pots.length := by rw [← hS.len]; exact (List.getElem?_eq_some_iff.mp hx).1
    obtain ⟨p, hp⟩ : ∃ p, g.pots[i]? = some p := ⟨_, List.getElem?_eq_getElem hi⟩
    obtain ⟨t, ht, hT⟩ := hS.pot hp
    rw [hx] at ht
    cases ht
    have e1 : Ex H H1 := e.trans ex_del
    walk_at "e"
    refine s_tupG (e1 _ _ hT) rfl ?_
    walk_at "e"
    exact lc_y (by omega) h1 h2 e (Ex.refl _) (by rw [take_succ hp, List.map_append]; rfl)
  · rintro Nm H1 acc hNm h1 h2 e rfl
    rw [hS.len, List.take_length] at h1
    have e1 : Ex H H1 := e.trans ex_del
    have hnl : (g.pots.map fun p => V.str p.name).length = g.pots.length := List.length_map _
    walk_at "1"
    refine s_lenL (e1 _ _ hra) ?_
    rw [hrl]
    refine s_forR (by omega) (fun i σ H2 => ∃ sv' st' v5 v6 v7, σ = [some (.ref a), some (.ref ra), some sv', some (.int first), some (.ref Nm), v5, v6, v7, none, none, none] ∧ Ex H1 H2 ∧ StA H2 sv' st' ∧ StOk g st' ∧ walkM g (rows.drop i) st' (first + (i : Nat)) = walkM g rows st first)
      ⟨sv, st, none, none, none, rfl, Ex.refl _, hst.mono e1, hs, by simp⟩ ?_ ?_
    · rintro N i σ H2 hi ⟨sv', st', v5, v6, v7, rfl, e2, hst', hs', hO⟩ hN
      obtain ⟨row, hrow⟩ : ∃ row, rows[i]? = some row := ⟨_, List.getElem?_eq_getElem (by omega)⟩
      rw [walk_drop hrow] at hO
      obtain ⟨v, hv, hdv⟩ := hrall.of_at (k := i) (d := .list row) (by rw [List.getElem?_map, hrow]; rfl)
      have hRow := hrows.2 row (List.mem_of_getElem? hrow)
      have hRl := hRow.1
      have e02 := e1.trans e2
      cases hdv with
      | lst hva hvall =>
      rename_i va vvs
      have hvl : vvs.length = row.length := hvall.len
      walk_at "1"
      refine s_ixL (e02 _ _ hra) (at_nat hv) ?_
      refine s_lcL (e02 _ _ hva) (fun j acc H3 => acc = (wetL g (row.take j)).map fun (k : Nat) => V.int k) rfl ?_ ?_
      · rintro j x acc D H3 hD hx q1 q2 e3 rfl
        obtain ⟨d, hd, hdq⟩ := hvall.at_ hx
        have hj := (List.getElem?_eq_some_iff.mp hd).1
        have hnd := hRow.2 d (List.mem_of_getElem? hd)
        have e23 : Ex H2 H3 := e3.trans ex_del
        have e13 := e2.trans e23
        have e03 := e1.trans e13
        have hNm3 := e13 _ _ h1
        have hw : wetL g (row.take (j + 1)) = wetL g (row.take j) ++ (placeOf g d).toList := by
          rw [take_succ hd]
          unfold wetL
          rw [List.filterMap_append]
          congr 1
        have dN : Dp K H3 (.ref Nm) (.list (namesD g)) := (Dq.lst hNm3 (dq_names g.pots)).dp
        have dX : Dp K H3 x d := (hdq.mono e03 _).dp
        walk_at "e"
        refine ⟨d, namesD g, dX, dN, name_shaped hnd, names_shaped ok, ?_⟩
        rw [place_any g hnd]
        cases hpl : placeOf g d with
        | none =>
          walk_at "e"
          refine lc_n q1 q2 e3 (Ex.refl _) ?_
          rw [hw, hpl]
          simp
        | some j0 =>
          walk_at "e"
          rcases hnd with ⟨s, hs', rfl⟩ | rfl | rfl | rfl
          · obtain ⟨p, hp, hpn, hfst⟩ := nameIx_some (show nameIx g.pots s = some j0 from hpl)
            refine s_bm hNm3 ⟨Nm, x, .str s, namesD g, j0, .str p.name, rfl, rfl, dN, dX, names_shaped ok, name_shaped (.inl ⟨s, hs', rfl⟩), by unfold namesD; rw [List.getElem?_map, hp]; rfl, by rw [eqv_str]; exact decide_eq_true hpn, fun m z' hm hz => ?_, ?_⟩
            · unfold namesD at hz
              rw [List.getElem?_map] at hz
              obtain ⟨q, hq, rfl⟩ := Option.map_eq_some_iff.mp hz
              rw [eqv_str]
              exact decide_eq_false (hfst m q hm hq)
            · refine lc_y (by omega) q1 q2 e3 (Ex.refl _) ?_
              rw [hw, hpl, List.map_append]
              rfl
          · cases hpl
          · cases hpl
          · cases hpl
      · rintro W H3 acc hW q1 q2 e3 rfl
        rw [hvl, List.take_length] at q1
        have e23 : Ex H2 H3 := e3.trans ex_del
        have e13 := e2.trans e23
        have e03 := e1.trans e13
        walk_at "1"
        refine s_lenL q1 ?_
        walk_at "0"
        refine s_ixL (e03 _ _ hra) (at_nat hv) (s_lenL (e03 _ _ hva) ?_)
        walk_at "0"
        rw [List.length_map, hvl]
        cases hp : placesM g row with
        | none =>
          have hlt := wetL_none hp
          rw [if_pos (by omega)]
          have hday : dayM g st' row = .none := by unfold dayM; rw [hp]
          rw [hday] at hO
          refine s_nwT (by show 2 ≤ 100000; decide) fun t ht => ?_
          refine k t _ (e03.trans (Ex.new ht)) ?_
          rw [← hO]
          exact upd_same
        | some ws =>
          have hws := wetL_some hp
          have hwl := places_len hp
          have hlt := places_lt hp
          rw [hws] at q1
          rw [hws, if_neg (by omega)]
          have hday : dayM g st' row = stepM g st' ws := by unfold dayM; rw [hp]
          rw [hday] at hO
          unfold stepM at hO
          walk_at "1"
          refine s_lenL (e13 _ _ h1) ?_
          walk_at "0"
          rw [hnl]
          refine s_lcR (by omega) (fun j acc H4 => acc = (inL j ws).map fun (k : Nat) => V.int k) rfl ?_ ?_
          · rintro j acc D H4 hD hj y1 y2 e4 rfl
            have e34 : Ex H3 H4 := e4.trans ex_del
            walk_at "e"
            refine ⟨W, _, rfl, .inl (SqL.of (e34 _ _ q1)), rfl, flat_nats ws, ?_⟩
            rw [inV_nat]
            by_cases hb : j ∈ ws
            · rw [decide_eq_true hb]
              walk_at "e"
              exact lc_y (by omega) y1 y2 e4 (Ex.refl _) (by rw [inL_succ, if_pos hb, List.map_append]; rfl)
            · rw [decide_eq_false hb]
              walk_at "e"
              exact lc_n y1 y2 e4 (Ex.refl _) (by rw [inL_succ, if_neg hb, List.append_nil])
          · rintro Z H4 acc hZ y1 y2 e4 rfl
            have e34 : Ex H3 H4 := e4.trans ex_del
            have e04 := e03.trans e34
            walk_at "0"
            refine s_lenL y1 ?_
            walk_at "0"
            refine s_lenL (e34 _ _ q1) ?_
            walk_at "0"
            rw [List.length_map, List.length_map]
            have hin := inL_lt (n := g.pots.length) hlt
            cases hnb : nodupB ws with
            | false =>
              have := hin.mpr hnb
              rw [if_pos (by omega)]
              rw [if_pos hnb] at hO
              refine s_nwT (by show 2 ≤ 100000; decide) fun t ht => ?_
              refine k t _ (e04.trans (Ex.new ht)) ?_
              rw [← hO]
              exact upd_same
            | true =>
              have hnl2 : ¬ (inL g.pots.length ws).length < ws.length := fun q => by
                rw [hin.mp q] at hnb
                cases hnb
              rw [if_neg (by omega)]
              rw [if_neg (by rw [hnb]; decide)] at hO
              walk_at "1"
              refine ⟨a, l, W, us, g, sv', st', ws, rfl, hS.mono e04, ok, hst'.mono (e23.trans e34), hs', e34 _ _ q1, hlt, by omega, fun hal H5 e5 => ?_, fun hal j hj H5 e5 => ?_, fun hal hj v' H5 e5 hv' => ?_⟩
              · rw [if_pos hal] at hO
                walk_at "e"
                refine s_nwT (by show 2 ≤ 100000; decide) fun t ht => ?_
                refine k t _ ((e04.trans e5).trans (Ex.new ht)) ?_
                rw [← hO]
                exact upd_same
              · rw [if_neg (by rw [hal]; decide), hj] at hO
                walk_at "e"
                refine s_isiS (b := false) (by decide +kernel) (bT_of ?_)
                walk_at "e"
                refine s_nwT (by show 3 ≤ 100000; decide) fun t ht => ?_
                refine k t _ ((e04.trans e5).trans (Ex.new ht)) ?_
                rw [← hO]
                exact upd_same
              · rw [if_neg (by rw [hal]; decide), hj] at hO
                obtain ⟨z1, z2, rfl, hz1, hz2⟩ := id hv'
                walk_at "e"
                refine s_isiT hz1 (b := true) (by decide +kernel) (bT_of ?_)
                walk_at "e"
                refine hN _ _ ⟨.ref z1, _, _, _, _, rfl, (e13.trans e34).trans e5, hv', next_ok ok hs' hj, ?_⟩
                rw [← hO]
                have : first + ((i + 1 : Nat) : Int) = first + (i : Nat) + 1 := by omega
                rw [this]
    · rintro σ H2 ⟨sv', st', v5, v6, v7, rfl, e2, hst', hs', hO⟩
      rw [List.drop_length] at hO
      walk_at "e"
      refine s_nwT (by show 2 ≤ 100000; decide) fun t ht => ?_
      refine k t _ ((e1.trans e2).trans (Ex.new ht)) ?_
      rw [← hO]
      exact ⟨sv', upd_same, hst'.mono (Ex.new ht)⟩
theorem ok_walked_L (T : Txt K mg) : Df P w K mg base CX0 2 "_law_walked" ["_law_spec_here", "_law_rows_here", "_law_state", "_law_first"] [] spWalkedL := let ⟨fd, F⟩ := T.d_walked_L; mk_df F (fn_walked_L T F) T.g_walked_L (F.bindsN fun _ _ _ _ _ _ us hl => match us, hl with | [_, _, _, _], _ => rfl)
/-! ### what a plan comes to -/
def ResV (H : Hp) (t : Addr) : Res → Prop
  | .none d => H t = some (.tup [.str "none", .int d])
  | .bad d => H t = some (.tup [.str "bad", .int d])
  | .dry d n => H t = some (.tup [.str "dry", .int d, .str n])
  | .ever k => H t = some (.tup [.str "ever", .int k])
def stD (st : Stt) : PyData := .tuple [.int st.1, .tuple (st.2.map PyData.int)]
theorem eqv_ints : ∀ (xs ys : List Int), PyData.eqvAll (xs.map PyData.int) (ys.map PyData.int) = decide (xs = ys)
  | [], [] => by simp [PyData.eqvAll]
  | [], _ :: _ => by simp [PyData.eqvAll]
  | _ :: _, [] => by simp [PyData.eqvAll]
  | x :: xs, y :: ys => by
    have ih := eqv_ints xs ys
    simp only [List.map_cons, PyData.eqvAll, PyData.eqv, ih]
    by_cases h1 : x = y <;> by_cases h2 : xs = ys <;> simp [h1, h2]
theorem eqv_st (a b : Stt) : PyData.eqv (stD a) (stD b) = decide (a = b) := by
  obtain ⟨d, xs⟩ := a
  obtain ⟨e, ys⟩ := b
  have h := eqv_ints xs ys
  simp only [stD, PyData.eqv, PyData.eqvAll, h]
  by_cases h1 : d = e <;> by_cases h2 : xs = ys <;> simp [h1, h2]
theorem dq_ints {H : Hp} (xs : List Int) : DqAll H (xs.map V.int) (xs.map PyData.int) := by
  induction xs with
  | nil => exact .nil
  | cons w ws ih => exact .cons (.int _) ih
theorem StA.dq {H : Hp} {v : V} {st : Stt} (h : StA H v st) : Dq H v (stD st) := by
  obtain ⟨a, b, rfl, h1, h2⟩ := h
  exact .tup h1 (.cons (.int _) (.cons (.tup h2 (dq_ints _)) .nil))
theorem st_lay (st : Stt) : (stD st).canLay0 = true ∧ (stD st).depth ≤ 2 := tup_lay (n := 1) fun d hd => by
  have h : d = .int st.1 ∨ d = .tuple (st.2.map PyData.int) := by simpa using hd
  rcases h with rfl | rfl
  · exact ⟨by simp [PyData.canLay0], by simp [PyData.depth]⟩
  · exact tup_lay (n := 0) fun e he => by
      obtain ⟨k, _, rfl⟩ := List.mem_map.mp he
      exact ⟨by simp [PyData.canLay0], by simp [PyData.depth]⟩
theorem st_shaped (st : Stt) : SeqAt.shaped (stD st) = true := shaped_lay (st_lay st) (by decide)
theorem met_shaped (met : List Stt) : SeqAt.shaped (.list (met.map stD)) = true := shaped_lay (list_lay (n := 2) fun d hd => by
  obtain ⟨st, _, rfl⟩ := List.mem_map.mp hd
  exact st_lay st) (by decide)
theorem met_any (met : List Stt) (st : Stt) : ((met.map stD).any fun z => PyData.eqv z (stD st)) = decide (st ∈ met) := by
  induction met with
  | nil => rfl
  | cons a met ih =>
    rw [List.map_cons, List.any_cons, ih, eqv_st]
    by_cases h : a = st
    · subst h
      simp
    · have h' : ¬ st = a := fun z => h z.symm
      simp [h, h']
theorem idx_at {met : List Stt} {st : Stt} (h : st ∈ met) : met[met.idxOf st]? = some st ∧ ∀ (m : Nat) (z : Stt), m < met.idxOf st → met[m]? = some z → z ≠ st := by
  induction met with
  | nil => cases h
  | cons a met ih =>
    by_cases q : a = st
    · subst q
      rw [List.idxOf_cons_self]
      exact ⟨rfl, fun m z hm => absurd hm (Nat.not_lt_zero m)⟩
    · have hm : st ∈ met := by
        rcases List.mem_cons.mp h with z | z
        · exact absurd z.symm q
        · exact z
      obtain ⟨h1, h2⟩ := ih hm
      have qb : (a == st) = false := by simpa using q
      have e : (a :: met).idxOf st = met.idxOf st + 1 := by
        rw [List.idxOf_cons, qb]
        rfl
      rw [e]
      refine ⟨h1, fun m z hm hz => ?_⟩
      cases m with
      | zero =>
        cases (show some a = some z from hz)
        exact q
      | succ m => exact h2 m z (by omega) hz
theorem WalkV.del_lst {H : Hp} {t M : Addr} {o : Out} {xs : List V} (h : WalkV H t o) (hM : H M = some (.lst xs)) : WalkV (del H M) t o := by
  have key : ∀ (b : Addr) (xs : List V), H b = some (.tup xs) → del H M b = some (.tup xs) := fun b xs hb => by
    rw [del_ne (fun q => by rw [q, hM] at hb; cases hb)]
    exact hb
  cases o with
  | none d => exact key _ _ h
  | bad d => exact key _ _ h
  | dry d n => exact key _ _ h
  | kept st => exact let ⟨v, h1, z1, z2, h2, h3, h4⟩ := h; ⟨v, key _ _ h1, z1, z2, h2, key _ _ h3, key _ _ h4⟩
/-- the first item, a text -/
theorem WalkV.tag {H : Hp} {t : Addr} {o : Out} (h : WalkV H t o) : ∃ (s : Str) (r : List V), H t = some (.tup (.str s :: r)) ∧ (s = (match o with | .none _ => "none" | .bad _ => "bad" | .dry _ _ => "dry" | .kept _ => "kept")) := by
  cases o with
  | none d => exact ⟨_, _, h, rfl⟩
  | bad d => exact ⟨_, _, h, rfl⟩
  | dry d n => exact ⟨_, _, h, rfl⟩
  | kept st => exact let ⟨v, h1, _⟩ := h; ⟨_, _, h1, rfl⟩
def spDueL : Sp := fun vs H Q _ => ∃ (a l : Addr) (us : List V) (g : Gd) (lv rv : V) (lead rows : List (List PyData)) (r : Res), vs = [.ref a, lv, rv] ∧ SpIn H a l us g ∧ g.Ok ∧ Dq H lv (.list (lead.map .list)) ∧ RowsD lead ∧ Dq H rv (.list (rows.map .list)) ∧ RowsD rows ∧
  keptM g lead rows = some r ∧ ∀ (t : Addr) (H' : Hp), Ex H H' → ResV H' t r → Q (.ref t) H'
theorem sc_due_L : FnScope ["_law_spec_here", "_law_lead", "_law_rows_here", "_law_fresh", "_law_due_here", "_law_met", "_law_at", "_law_one"] ["_law_spec_here", "_law_lead", "_law_rows_here"] (defScope s_due_L) := ⟨rfl, rfl, rfl, by decide +kernel, rfl, by decide +kernel, by decide +kernel⟩
theorem st_due_L (p0 p1 p2 : V) : start ["_law_spec_here", "_law_lead", "_law_rows_here", "_law_fresh", "_law_due_here", "_law_met", "_law_at", "_law_one"] [p0, p1, p2] = [some p0, some p1, some p2, none, none, none, none, none] := rfl
theorem fn_due_L (T : Txt K mg) {fd : FuncData} (F : FunD K "_law_due" "_law_due" (defArgs s_due_L) (defBody s_due_L) (defScope s_due_L) [] [] (ga K "_law_due") fd) : FnOk P w K mg base CX0 3 (ga K "_law_due") fd ["_law_spec_here", "_law_lead", "_law_rows_here"] spDueL := by
  refine F.ok (CX := CX0) (k := 2) sc_due_L (fun vs H Q E h => ?L) (fun cdv A outer s H vs Q E hr h => ?B)
  case L => first | (obtain ⟨_, rfl, _⟩ := h; rfl) | (obtain ⟨_, _, rfl, _⟩ := h; rfl) | (obtain ⟨_, _, _, rfl, _⟩ := h; rfl) | (obtain ⟨_, _, _, _, rfl, _⟩ := h; rfl) | (obtain ⟨_, _, _, _, _, rfl, _⟩ := h; rfl) | (obtain ⟨_, _, _, _, _, _, rfl, _⟩ := h; rfl) | (obtain ⟨_, _, _, _, _, _, _, rfl, _⟩ := h; rfl) | (obtain ⟨_, _, _, _, _, _, _, _, rfl, _⟩ := h; rfl) | (obtain ⟨_, _, _, _, _, _, _, _, _, rfl, _⟩ := h; rfl) | (obtain ⟨_, _, _, _, _, _, _, _, _, _, rfl, _⟩ := h; rfl) | (obtain ⟨_, _, _, _, _, _, _, _, _, _, _, rfl, _⟩ := h; rfl) | (obtain ⟨_, _, _, _, _, _, _, _, _, _, _, _, rfl, _⟩ := h; rfl) | (obtain ⟨_, _, _, _, _, _, _, _, _, _, _, _, _, rfl, _⟩ := h; rfl)
  case B =>
  refine ⟨_, PSs.nox ((pss_cons (ps_set (i := 3) sc_due_L.nd rfl (Or.inl rfl) (pe_tup (pa_cons pe_int (pa_cons (pe_callTy call_tupO (by rfl) T.f_tuple (by decide +kernel) (pa_cons (pe_lc (own := [("_law_one", 7)]) (g := (gName 7)) (tt := tYes) (te := (tC (.int 0))) rfl sc_due_L.nd (pi_list (pe_ix ix_tup (pv 0) pe_int (fun _ _ => rfl))) (blkOk_by (own := [("_law_one", 7)]) (N := ["_law_spec_here", "_law_lead", "_law_rows_here", "_law_fresh", "_law_due_here", "_law_met", "_law_at", "_law_one"]) (sc := defScope s_due_L) (by decide +kernel)) (fun _ _ _ _ _ => (pg_name (i := 7) sc_due_L.nd rfl (Or.inl rfl))) (fun _ _ _ _ _ => pts_nil) (fun _ _ _ _ _ => pe_int)) pa_nil)) pa_nil))))
      (pss_cons (ps_set (i := 4) sc_due_L.nd rfl (Or.inl rfl) (pe_df (ok_walked_L T) (hr.mono (by decide)) rfl pass0 (pa_cons (pv 0) (pa_cons (pv 1) (pa_cons (pv 3) (pa_cons pe_int pa_nil))))))
      (pss_cons (ps_if (PW.pt (pw_or (pt_cmpR op_eq (pe_ix ix_tup (pv 4) pe_int (fun _ _ => rfl)) pe_str (nomark _)) (pw_or1 (pt_cmpR op_eq (pe_ix ix_tup (pv 4) pe_int (fun _ _ => rfl)) pe_str (nomark _))))) (pss_one (ps_ret (pv 4)))
      pss_nil)
      (pss_cons (ps_if (pt_cmpR (op_eqD (hu_64 hr)) (pv 2) (pe_lst pa_nil) (nomark _)) (pss_one (ps_ret (pe_tup (pa_cons pe_str (pa_cons (pe_callB call_lenQ (by rfl) T.f_len (by decide +kernel) (pa_cons (pv 1) pa_nil)) pa_nil)))))
      pss_nil)
      (pss_cons (ps_set (i := 5) sc_due_L.nd rfl (Or.inl rfl) (pe_lst pa_nil))
      (pss_cons (ps_set (i := 6) sc_due_L.nd rfl (Or.inl rfl) (pe_callB call_lenQ (by rfl) T.f_len (by decide +kernel) (pa_cons (pv 1) pa_nil)))
      (pss_cons (ps_while PassesOwn.never (PW.pt (pw_and (pt_cmpR op_eq (pe_ix ix_tup (pv 4) pe_int (fun _ _ => rfl)) pe_str (nomark _)) (pw_and1 (pt_cmpR (op_notInD (hu_65 hr)) (pe_ix ix_tup (pv 4) pe_int (fun _ _ => rfl)) (pv 5) (by rfl)))))
      (pss_cons (ps_expr (pe_bm PySem.F.plainAttrs_list PySem.F.slot_list_append PySem.F.type_list_append mt_append (pv 5) (pa_cons (pe_ix ix_tup (pv 4) pe_int (fun _ _ => rfl)) pa_nil)))
      (pss_cons (ps_set (i := 4) sc_due_L.nd rfl (Or.inl rfl) (pe_df (ok_walked_L T) (hr.mono (by decide)) rfl pass0 (pa_cons (pv 0) (pa_cons (pv 2) (pa_cons (pe_ix ix_tup (pv 4) pe_int (fun _ _ => rfl)) (pa_cons (pv 6) pa_nil))))))
      (pss_one (ps_set (i := 6) sc_due_L.nd rfl (Or.inl rfl) (pe_op op_add (pv 6) (pe_callB call_lenQ (by rfl) T.f_len (by decide +kernel) (pa_cons (pv 2) pa_nil))))))))
      (pss_cons (ps_if (pt_cmpR op_eq (pe_ix ix_tup (pv 4) pe_int (fun _ _ => rfl)) pe_str (nomark _)) (pss_one (ps_ret (pe_tup (pa_cons pe_str (pa_cons (pe_op op_sub (pe_callB call_lenQ (by rfl) T.f_len (by decide +kernel) (pa_cons (pv 5) pa_nil)) (pe_bm PySem.F.plainAttrs_list PySem.F.slot_list_index PySem.F.type_list_index (mt_indexD (hu_65 hr)) (pv 5) (pa_cons (pe_ix ix_tup (pv 4) pe_int (fun _ _ => rfl)) pa_nil))) pa_nil)))))
      pss_nil)
      (pss_one (ps_ret (pv 4)))))))))))), ?_⟩
  obtain ⟨a, l, us, g, lv, rv, lead, rows, r, rfl, hS, ok, hlv, hlead, hrv, hrows, hk, k⟩ := h
  have hn3 := ok.n3
  rw [st_due_L]
  walk_at "1"
  have i0 : atI [V.ref l, V.int g.cans, V.int g.week, V.int g.closed] 0 = some (.ref l) := rfl
  refine s_ixT hS.tup i0 ?_
  refine s_lcL hS.lst (fun i acc H1 => acc = List.replicate i (V.int 0)) rfl ?_ ?_
  · rintro i x acc D H1 hD hx h1 h2 e rfl
    have hi : i < g.pots.length := by rw [← hS.len]; exact (List.getElem?_eq_some_iff.mp hx).1
    walk_at "e"
    exact lc_y (by omega) h1 h2 e (Ex.refl _) (rep_succ i)
  rintro D H1 acc hD h1 h2 e rfl
  refine s_tupL h1 fun t1 ht1 => ?_
  walk_at "0"
  refine s_nwT (by show 2 ≤ 100000; decide) fun t2 ht2 => ?_
  have e2 : Ex H (upd (upd H1 t1 (.tup (List.replicate us.length (V.int 0)))) t2 (.tup [V.int 0, V.ref t1])) := ex_upd (ex_upd (e.trans ex_del) ht1) ht2
  have hfr : StA (upd (upd H1 t1 (.tup (List.replicate us.length (V.int 0)))) t2 (.tup [V.int 0, V.ref t1])) (.ref t2) (freshS g) := by
    refine ⟨t2, t1, rfl, upd_same, ?_⟩
    rw [upd_ne (ne_new upd_same ht2), upd_same, hS.len]
    show some (HO.tup _) = some (HO.tup ((g.pots.map fun _ => (0 : Int)).map V.int))
    rw [List.map_map, ← map_zero]
    rfl
  show tSeq _ _ _ _ (upd (upd H1 t1 (.tup (List.replicate us.length (V.int 0)))) t2 (.tup [V.int 0, V.ref t1]))
  generalize upd (upd H1 t1 (.tup (List.replicate us.length (V.int 0)))) t2 (.tup [V.int 0, V.ref t1]) = H2 at e2 hfr
  walk_at "1"
  refine ⟨a, l, us, g, lv, .ref t2, lead, freshS g, 0, rfl, hS.mono e2, ok, hlv.mono e2 _, hlead, hfr, fresh_ok ok, fun t H3 e3 ht => ?_⟩
  have hok := walk_ok ok lead (freshS g) 0 (fresh_ok ok)
  have e03 := e2.trans e3
  walk_at "0"
  have n1 : ¬ (("none" : Str) = "bad") := by decide +kernel
  have n2 : ¬ (("dry" : Str) = "bad") := by decide +kernel
  have n3 : ¬ (("dry" : Str) = "none") := by decide +kernel
  have n4 : ¬ (("kept" : Str) = "bad") := by decide +kernel
  have n5 : ¬ (("kept" : Str) = "none") := by decide +kernel
  have n6 : ¬ (("dry" : Str) = "kept") := by decide +kernel
  have hlv1 := hlv.mono e03 _
  have hrv1 := hrv.mono e03 _
  cases hlv1 with
  | lst hla hlall =>
  rename_i la lvs
  have hll : lvs.length = lead.length := by rw [hlall.len, List.length_map]
  cases hrv1 with
  | lst hra hrall =>
  rename_i ra rvs
  have hrl : rvs.length = rows.length := by rw [hrall.len, List.length_map]
  refine s_cut (fun σ H4 => σ = [some (.ref a), some (.ref la), some (.ref ra), some (.ref t2), some (.ref t), none, none, none] ∧ H4 = H3 ∧ (if rows = [] then some (Res.bad (lead.length : Nat)) else roundsM g rows 200 [] (walkM g lead (freshS g) 0) (lead.length : Nat)) = some r) ?_ ?_
  rotate_left
  · intro N hN
    unfold keptM at hk
    obtain ⟨s, rr, h0, hs0⟩ := WalkV.tag ht
    have a0 : atI (V.str s :: rr) 0 = some (V.str s) := at_nat (k := 0) rfl
    generalize ho : walkM g lead (freshS g) 0 = o at ht hok hk hs0 hN
    walk_at "e"
    refine s_ixT h0 a0 ?_
    walk_at "e"
    cases o with
    | none d =>
      cases hk
      dsimp only at hs0
      subst hs0
      rw [if_neg n1]
      refine s_ixT h0 a0 ?_
      walk_at "e"
      first | rw [if_pos rfl] | skip
      exact k t H3 e03 ht
    | bad d =>
      cases hk
      dsimp only at hs0
      subst hs0
      first | rw [if_pos rfl] | skip
      exact k t H3 e03 ht
    | dry d n =>
      dsimp only at hs0
      subst hs0
      rw [if_neg n2]
      refine s_ixT h0 a0 ?_
      walk_at "e"
      rw [if_neg n3]
      exact hN _ _ ⟨rfl, rfl, hk⟩
    | kept st =>
      dsimp only at hs0
      subst hs0
      rw [if_neg n4]
      refine s_ixT h0 a0 ?_
      walk_at "e"
      rw [if_neg n5]
      exact hN _ _ ⟨rfl, rfl, hk⟩
  rintro σ H4 ⟨rfl, rfl, hk2⟩
  have hko : ∀ st, walkM g lead (freshS g) 0 = .kept st → StOk g st := fun st hst => by
    rw [hst] at hok
    exact hok
  generalize walkM g lead (freshS g) 0 = o at ht hok hk2 hko
  refine s_cut (fun σ H5 => σ = [some (.ref a), some (.ref la), some (.ref ra), some (.ref t2), some (.ref t), none, none, none] ∧ Ex H4 H5 ∧ rows ≠ []) ?_ ?_
  rotate_left
  · intro N hN
    walk_at "e"
    refine s_nil fun z hz => ?_
    have ez : Ex H4 (upd H4 z (.lst [])) := Ex.new hz
    refine s_eqN (l := rows.map .list) (.lst (ez _ _ hra) (hrall.mono ez _)) (rows_shaped hrows) upd_same ?_
    walk_at "e"
    by_cases hre : rows = []
    · rw [if_pos (by rw [hre]; rfl)]
      rw [if_pos hre] at hk2
      cases hk2
      refine s_lenL (ez _ _ hla) ?_
      walk_at "e"
      refine s_nwT (by show 2 ≤ 100000; decide) fun t3 ht3 => ?_
      rw [hll]
      exact k t3 _ ((e03.trans ez).trans (Ex.new ht3)) upd_same
    · rw [if_neg (fun q => hre (List.map_eq_nil_iff.mp q))]
      exact hN _ _ ⟨rfl, ez, hre⟩
  rintro σ H5 ⟨rfl, e5, hre⟩
  rw [if_neg hre] at hk2
  walk_at "1"
  refine s_nil fun M hM => ?_
  have hM4 : H4 M = none := fresh_back e5 hM
  have e6 : Ex H4 (upd H5 M (.lst [])) := e5.trans (Ex.new hM)
  walk_at "1"
  refine s_lenL (e6 _ _ hla) ?_
  rw [hll]
  walk_at "1"
  refine while_w (fun m σ H6 => ∃ (vs : List V) (met : List Stt) (t : Addr) (o : Out) (at_ : Int), σ = [some (.ref a), some (.ref la), some (.ref ra), some (.ref t2), some (.ref t), some (.ref M), some (.int at_), none] ∧ Ex H4 (del H6 M) ∧ H6 M = some (.lst vs) ∧ DqAll (del H6 M) vs (met.map stD) ∧
      met.Nodup ∧ (∀ st ∈ met, StOk g st) ∧ WalkV (del H6 M) t o ∧ (∀ st, o = .kept st → StOk g st) ∧ roundsM g rows m met o at_ = some r) 200
    ⟨[], [], t, o, _, rfl, ex_into e6 hM4, upd_same, .nil, List.nodup_nil, fun x hx => (by cases hx), ht.mono (ex_into e6 hM4), hko, hk2⟩ ?_
  rintro m σ H6 ⟨vs, met, t, o, at_, rfl, e7, hMd, hdq, hnd, hall, htold, hko, hrd⟩
  have e16 : Ex H H6 := e03.trans (e7.trans ex_del)
  have hvl : vs.length = met.length := by rw [hdq.len, List.length_map]
  have hle : met.length ≤ 126 := met_le ok hnd hall
  obtain ⟨s, rr, h0', hs0⟩ := WalkV.tag htold
  have h0 : H6 t = some (.tup (.str s :: rr)) := ex_del _ _ h0'
  have a0 : atI (V.str s :: rr) 0 = some (V.str s) := at_nat (k := 0) rfl
  cases m with
  | zero => cases hrd
  | succ f =>
  walk_at "e"
  refine s_ixT h0 a0 ?_
  walk_at "e"
  have n7 : ¬ (("none" : Str) = "kept") := by decide +kernel
  have n8 : ¬ (("bad" : Str) = "kept") := by decide +kernel
  have leave : ¬ s = "kept" → (match o with
      | .none d => r = .none d
      | .bad d => r = .bad d
      | .dry d n => r = .dry d n
      | .kept _ => False) → Q (.ref t) H6 := fun hne hr2 => by
    refine k t H6 e16 ?_
    have hw := htold.mono (ex_del (H := H6) (p := M))
    cases o with
    | none d => rw [hr2]; exact hw
    | bad d => rw [hr2]; exact hw
    | dry d n => rw [hr2]; exact hw
    | kept st => exact hr2.elim
  cases o with
  | none d =>
    dsimp only at hs0
    have hne : ¬ s = "kept" := by rw [hs0]; exact n7
    rw [if_neg hne]
    refine s_ixT h0 a0 ?_
    walk_at "e"
    rw [if_neg hne]
    exact leave hne (Option.some.inj hrd).symm
  | bad d =>
    dsimp only at hs0
    have hne : ¬ s = "kept" := by rw [hs0]; exact n8
    rw [if_neg hne]
    refine s_ixT h0 a0 ?_
    walk_at "e"
    rw [if_neg hne]
    exact leave hne (Option.some.inj hrd).symm
  | dry d n =>
    dsimp only at hs0
    have hne : ¬ s = "kept" := by rw [hs0]; exact n6
    rw [if_neg hne]
    refine s_ixT h0 a0 ?_
    walk_at "e"
    rw [if_neg hne]
    exact leave hne (Option.some.inj hrd).symm
  | kept st =>
    dsimp only at hs0
    rw [if_pos hs0]
    obtain ⟨v, hv1', hst'⟩ := htold
    have hv1 : H6 t = some (.tup [.str "kept", v]) := ex_del _ _ hv1'
    have hst : StA H6 v st := hst'.mono ex_del
    have hsok := hko st rfl
    have i1 : atI [V.str "kept", v] 1 = some v := rfl
    have hrd : (if st ∈ met then some (Res.ever ((met.length : Int) - (met.idxOf st : Nat))) else roundsM g rows f (met ++ [st]) (walkM g rows st at_) (at_ + (rows.length : Nat))) = some r := hrd
    have dM : Dq H6 (.ref M) (.list (met.map stD)) := .lst hMd (hdq.mono ex_del _)
    refine s_ixT hv1 i1 ?_
    refine ⟨stD st, met.map stD, hst.dq.dp, dM.dp, st_shaped st, met_shaped met, ?_⟩
    rw [met_any]
    by_cases hin : st ∈ met
    · rw [if_pos hin] at hrd
      cases hrd
      rw [decide_eq_true hin]
      walk_at "e"
      refine s_ixT h0 a0 ?_
      walk_at "e"
      rw [if_pos hs0]
      refine s_lenL hMd ?_
      walk_at "e"
      refine s_bm hMd (s_ixT hv1 i1 ?_)
      obtain ⟨x1, x2⟩ := idx_at hin
      refine ⟨M, v, stD st, met.map stD, met.idxOf st, stD st, rfl, rfl, dM.dp, hst.dq.dp, met_shaped met, st_shaped st, by rw [List.getElem?_map, x1]; rfl, by rw [eqv_st]; exact decide_eq_true rfl, fun m z' hm hz => ?_, ?_⟩
      · rw [List.getElem?_map] at hz
        obtain ⟨q, hq, rfl⟩ := Option.map_eq_some_iff.mp hz
        rw [eqv_st]
        exact decide_eq_false (x2 m q hm hq)
      · walk_at "e"
        refine s_nwT (by show 2 ≤ 100000; decide) fun t3 ht3 => ?_
        rw [hvl]
        exact k t3 _ (e16.trans (Ex.new ht3)) upd_same
    · rw [if_neg hin] at hrd
      rw [decide_eq_false hin]
      walk_at "e"
      refine ⟨_, fun _ _ q => q, ?_⟩
      refine s_bm hMd (s_ixT hv1 i1 (s_apq hMd (by omega) ?_))
      walk_at "e"
      generalize hH7 : upd H6 M (.lst (vs ++ [v])) = H7
      have hM7 : H7 M = some (.lst (vs ++ [v])) := by rw [← hH7, upd_same]
      have d67 : del H7 M = del H6 M := by rw [← hH7, del_upd]
      have e67 : Ex (del H6 M) H7 := by rw [← d67]; exact ex_del
      have nMt : t ≠ M := fun q => by rw [q, hMd] at h0; cases h0
      have e47 : Ex H4 H7 := e7.trans e67
      have e07 : Ex H H7 := e03.trans e47
      refine s_ixT (by rw [← hH7, upd_ne nMt]; exact hv1) i1 ?_
      walk_at "e"
      have hnd' : (met ++ [st]).Nodup := by
        rw [List.nodup_append]
        exact ⟨hnd, by simp, fun x hx y hy => by
          have : y = st := by simpa using hy
          rw [this]
          exact fun z => hin (by rw [← z]; exact hx)⟩
      have hall' : ∀ s ∈ met ++ [st], StOk g s := fun s hs => by
        rcases List.mem_append.mp hs with q | q
        · exact hall s q
        · have : s = st := by simpa using q
          rw [this]
          exact hsok
      have hok' := walk_ok ok rows st at_ hsok
      refine ⟨a, l, us, g, .ref ra, v, rows, st, at_, rfl, hS.mono e07, ok, .lst (e47 _ _ hra) (hrall.mono e47 _), hrows, hst'.mono e67, hsok, fun t8 H8 e8 ht8 => ?_⟩
      walk_at "e"
      refine s_lenL (e8 _ _ (e47 _ _ hra)) ?_
      walk_at "e"
      rw [hrl]
      have hM8 := e8 _ _ hM7
      refine ⟨f, by omega, vs ++ [v], met ++ [st], t8, walkM g rows st at_, _, rfl, ?_, hM8, ?_, hnd', hall', ht8.del_lst hM8, fun st5 h5 => (by rw [h5] at hok'; exact hok'), hrd⟩
      · exact e7.trans (by rw [← d67]; exact ex_del2 e8)
      · rw [List.map_append]
        have e68 : Ex (del H6 M) (del H8 M) := by rw [← d67]; exact ex_del2 e8
        exact (hdq.mono e68 _).app (.one (hst'.mono e68).dq)
theorem ok_due_L (T : Txt K mg) : Df P w K mg base CX0 3 "_law_due" ["_law_spec_here", "_law_lead", "_law_rows_here"] [] spDueL := let ⟨fd, F⟩ := T.d_due_L; mk_df F (fn_due_L T F) T.g_due_L (F.bindsN fun _ _ _ _ _ _ us hl => match us, hl with | [_, _, _], _ => rfl)
end
end Tk

set_option maxHeartbeats 4000000
/-! Refusals told; rows of names. -/
namespace Tk
open PySem PySem.Spec PyProof.Rows L2 He Evl
local macro_rules | `(tactic| walk_at "e") => `(tactic| (try simp only [a_seq, a_var0, a_varS, a_c, a_asg, a_name, a_set0, a_setS, a_ret, a_retN, a_ifS, a_drop, a_next, a_op, a_un, a_I0, a_I, a_U, a_bT, a_test, a_B, a_and, a_or, a_not, a_andV, a_orV, a_notV, a_if, a_isN, a_notN, a_nil, a_cons, a_CB, a_lst, a_tup, a_dget, a_din, a_dnotin, a_dput, a_newK, a_revL, a_getN, a_putN, a_newN, a_forL, a_forT, a_forR, a_lcL, a_lcR, a_yes, a_w0, a_w1, cx_K, cx_P, cx_w, a_eqI, a_neI, a_eqS, a_neS, a_call, a_callS, a_clsFn, a_meth, a_make, a_fld, a_fldS, a_BM, a_BM0, a_sl, a_noP, a_part, a_intP, a_gTup, a_gNil, a_gCons, a_gSub, a_ipI, a_ipMul, a_aug, a_augS, a_chain, m_and, m_or, a_xp, cxh_K, a_veI, a_ost, a_mkK, a_nn, not_false_eq_true, not_true_eq_false, Option.map_some, Option.map_none, Option.isSome_some, Option.isSome_none, List.map_cons, List.map_nil, true_and, and_true, true_or, or_true, false_and, and_false, false_or, or_false, if_true, if_false, Bool.false_eq_true, decide_eq_true_eq, Bool.not_eq_true, Bool.not_true, Bool.not_false, decide_eq_false_iff_not, Bool.not_eq_eq_eq_not, reduceCtorEq, Bool.true_eq_false, List.cons_append, List.nil_append, List.append_nil]))
local macro_rules | `(tactic| walk_at "1") => `(tactic| ((try simp only [a_var0, a_varS, a_c, a_asg, a_name, a_set0, a_setS, a_ret, a_retN, a_ifS, a_drop, a_next, a_op, a_un, a_I0, a_I, a_U, a_bT, a_test, a_B, a_and, a_or, a_not, a_andV, a_orV, a_notV, a_if, a_isN, a_notN, a_nil, a_cons, a_CB, a_lst, a_tup, a_dget, a_din, a_dnotin, a_dput, a_newK, a_revL, a_getN, a_putN, a_newN, a_forL, a_forT, a_forR, a_lcL, a_lcR, a_yes, a_w0, a_w1, cx_K, cx_P, cx_w, a_eqI, a_neI, a_eqS, a_neS, a_call, a_callS, a_clsFn, a_meth, a_make, a_fld, a_fldS, a_BM, a_BM0, a_sl, a_noP, a_part, a_intP, a_gTup, a_gNil, a_gCons, a_gSub, a_ipI, a_ipMul, a_aug, a_augS, a_chain, m_and, m_or, a_xp, cxh_K, a_veI, a_ost, a_mkK, a_nn, not_false_eq_true, not_true_eq_false, Option.map_some, Option.map_none, Option.isSome_some, Option.isSome_none, List.map_cons, List.map_nil, true_and, and_true, true_or, or_true, false_and, and_false, false_or, or_false, if_true, if_false, Bool.false_eq_true, decide_eq_true_eq, Bool.not_eq_true, Bool.not_true, Bool.not_false, decide_eq_false_iff_not, Bool.not_eq_eq_eq_not, reduceCtorEq, Bool.true_eq_false, List.cons_append, List.nil_append, List.append_nil]); rw [a_seq]; (try simp only [a_var0, a_varS, a_c, a_asg, a_name, a_set0, a_setS, a_ret, a_retN, a_ifS, a_drop, a_next, a_op, a_un, a_I0, a_I, a_U, a_bT, a_test, a_B, a_and, a_or, a_not, a_andV, a_orV, a_notV, a_if, a_isN, a_notN, a_nil, a_cons, a_CB, a_lst, a_tup, a_dget, a_din, a_dnotin, a_dput, a_newK, a_revL, a_getN, a_putN, a_newN, a_forL, a_forT, a_forR, a_lcL, a_lcR, a_yes, a_w0, a_w1, cx_K, cx_P, cx_w, a_eqI, a_neI, a_eqS, a_neS, a_call, a_callS, a_clsFn, a_meth, a_make, a_fld, a_fldS, a_BM, a_BM0, a_sl, a_noP, a_part, a_intP, a_gTup, a_gNil, a_gCons, a_gSub, a_ipI, a_ipMul, a_aug, a_augS, a_chain, m_and, m_or, a_xp, cxh_K, a_veI, a_ost, a_mkK, a_nn, not_false_eq_true, not_true_eq_false, Option.map_some, Option.map_none, Option.isSome_some, Option.isSome_none, List.map_cons, List.map_nil, true_and, and_true, true_or, or_true, false_and, and_false, false_or, or_false, if_true, if_false, Bool.false_eq_true, decide_eq_true_eq, Bool.not_eq_true, Bool.not_true, Bool.not_false, decide_eq_false_iff_not, Bool.not_eq_eq_eq_not, reduceCtorEq, Bool.true_eq_false, List.cons_append, List.nil_append, List.append_nil])))
local macro_rules | `(tactic| walk_at "0") => `(tactic| (try simp only [a_var0, a_varS, a_c, a_asg, a_name, a_set0, a_setS, a_ret, a_retN, a_ifS, a_drop, a_next, a_op, a_un, a_I0, a_I, a_U, a_bT, a_test, a_B, a_and, a_or, a_not, a_andV, a_orV, a_notV, a_if, a_isN, a_notN, a_nil, a_cons, a_CB, a_lst, a_tup, a_dget, a_din, a_dnotin, a_dput, a_newK, a_revL, a_getN, a_putN, a_newN, a_forL, a_forT, a_forR, a_lcL, a_lcR, a_yes, a_w0, a_w1, cx_K, cx_P, cx_w, a_eqI, a_neI, a_eqS, a_neS, a_call, a_callS, a_clsFn, a_meth, a_make, a_fld, a_fldS, a_BM, a_BM0, a_sl, a_noP, a_part, a_intP, a_gTup, a_gNil, a_gCons, a_gSub, a_ipI, a_ipMul, a_aug, a_augS, a_chain, m_and, m_or, a_xp, cxh_K, a_veI, a_ost, a_mkK, a_nn, not_false_eq_true, not_true_eq_false, Option.map_some, Option.map_none, Option.isSome_some, Option.isSome_none, List.map_cons, List.map_nil, true_and, and_true, true_or, or_true, false_and, and_false, false_or, or_false, if_true, if_false, Bool.false_eq_true, decide_eq_true_eq, Bool.not_eq_true, Bool.not_true, Bool.not_false, decide_eq_false_iff_not, Bool.not_eq_eq_eq_not, reduceCtorEq, Bool.true_eq_false, List.cons_append, List.nil_append, List.append_nil]))
section
variable {P : Program} {w : World} {K : PySem.W.Frag} {mg : Str → Option Value} {base : Heap}
def spSorts (K : PySem.W.Frag) : Addr × Obj → Sp := fun p vs H Q _ => ∃ (D : Addr) (d : Option Addr), vs = [.ref p.1] ∧ IsExc K H p D d ∧ (D = ga K "BadDay" ∨ D = ga K "NoPot") ∧
  ∀ (r : Addr) (bs : List Bool) (H' : Hp), Ex H H' → H' r = some (.lst (bs.map V.bl)) → bs.count true = 1 → Q (.ref r) H'
theorem sc_sorts_L : FnScope ["_law_error", "_law_found"] ["_law_error"] (defScope s_sorts_L) := ⟨rfl, rfl, rfl, by decide +kernel, rfl, by decide +kernel, by decide +kernel⟩
theorem st_sorts_L (p0 : V) : start ["_law_error", "_law_found"] [p0] = [some p0, none] := rfl
theorem fe_sorts_L (T : Txt K mg) {fd : FuncData} (F : FunD K "_law_sorts" "_law_sorts" (defArgs s_sorts_L) (defBody s_sorts_L) (defScope s_sorts_L) [] [] (ga K "_law_sorts") fd) : FnE P w K mg base 1 (ga K "_law_sorts") fd ["_law_error"] (spSorts K) := by
  refine okE F (k := 0) sc_sorts_L (fun p vs H Q E h => ?L) (fun cdv A outer s H vs Q E p hr h => ?B)
  case L => first | (obtain ⟨_, rfl, _⟩ := h; rfl) | (obtain ⟨_, _, rfl, _⟩ := h; rfl) | (obtain ⟨_, _, _, rfl, _⟩ := h; rfl) | (obtain ⟨_, _, _, _, rfl, _⟩ := h; rfl) | (obtain ⟨_, _, _, _, _, rfl, _⟩ := h; rfl) | (obtain ⟨_, _, _, _, _, _, rfl, _⟩ := h; rfl) | (obtain ⟨_, _, _, _, _, _, _, rfl, _⟩ := h; rfl) | (obtain ⟨_, _, _, _, _, _, _, _, rfl, _⟩ := h; rfl) | (obtain ⟨_, _, _, _, _, _, _, _, _, rfl, _⟩ := h; rfl) | (obtain ⟨_, _, _, _, _, _, _, _, _, _, rfl, _⟩ := h; rfl) | (obtain ⟨_, _, _, _, _, _, _, _, _, _, _, rfl, _⟩ := h; rfl) | (obtain ⟨_, _, _, _, _, _, _, _, _, _, _, _, rfl, _⟩ := h; rfl) | (obtain ⟨_, _, _, _, _, _, _, _, _, _, _, _, _, rfl, _⟩ := h; rfl)
  case B =>
  refine ⟨_, PSs.nox ((pss_cons (ps_set (i := 1) sc_sorts_L.nd rfl (Or.inl rfl) (pe_lst (pa_cons (pe_callB (call_isP List.mem_cons_self) (by rfl) T.f_isinstance (by decide +kernel) (pa_cons (pv 0) (pa_cons (pe_glob (v := .ref _) rfl T.g_BadPot rfl) pa_nil))) (pa_cons (pe_callB (call_isP List.mem_cons_self) (by rfl) T.f_isinstance (by decide +kernel) (pa_cons (pv 0) (pa_cons (pe_glob (v := .ref _) rfl T.g_TooMany rfl) pa_nil))) (pa_cons (pe_callB (call_isP List.mem_cons_self) (by rfl) T.f_isinstance (by decide +kernel) (pa_cons (pv 0) (pa_cons (pe_glob (v := .ref _) rfl T.g_NoPot rfl) pa_nil))) pa_nil)))))
      (pss_one (ps_ret (pe_op op_cat (pv 1) (pe_lst (pa_cons (pe_callB (call_isP List.mem_cons_self) (by rfl) T.f_isinstance (by decide +kernel) (pa_cons (pv 0) (pa_cons (pe_glob (v := .ref _) rfl T.g_BadDay rfl) pa_nil))) (pa_cons (pe_callB (call_isP List.mem_cons_self) (by rfl) T.f_isinstance (by decide +kernel) (pa_cons (pv 0) (pa_cons (pe_glob (v := .ref _) rfl T.g_BadRow rfl) pa_nil))) (pa_cons (pe_callB (call_isP List.mem_cons_self) (by rfl) T.f_isinstance (by decide +kernel) (pa_cons (pv 0) (pa_cons (pe_glob (v := .ref _) rfl T.g_NoState rfl) pa_nil))) pa_nil))))))))), ?_⟩
  obtain ⟨D, d, rfl, hE, hD, k⟩ := h
  rw [st_sorts_L]
  walk_at "e"
  rcases hD with rfl | rfl
  · refine s_isP T.ecBD hE T.b12 ?_
    walk_at "e"
    refine s_isP T.ecBD hE T.b13 ?_
    walk_at "e"
    refine s_isP T.ecBD hE T.b14 ?_
    walk_at "e"
    refine s_nwG (by show 3 ≤ 100000; decide) fun p1 H1 _ e1 h1 => ?_
    walk_at "e"
    refine s_isP T.ecBD (hE.mono e1) T.b15 ?_
    walk_at "e"
    refine s_isP T.ecBD (hE.mono e1) T.b16 ?_
    walk_at "e"
    refine s_isP T.ecBD (hE.mono e1) T.b17 ?_
    walk_at "e"
    refine s_nwG (by show 3 ≤ 100000; decide) fun p2 H2 _ e2 h2 => ?_
    refine s_cat (e2 _ _ h1) h2 (by show 6 ≤ 100000; decide) fun p3 hp3 => ?_
    exact k p3 [false, false, false, true, false, false] _ ((e1.trans e2).trans (Ex.new hp3)) upd_same rfl
  · refine s_isP T.ecNP hE T.b19 ?_
    walk_at "e"
    refine s_isP T.ecNP hE T.b20 ?_
    walk_at "e"
    refine s_isP T.ecNP hE T.b21 ?_
    walk_at "e"
    refine s_nwG (by show 3 ≤ 100000; decide) fun p1 H1 _ e1 h1 => ?_
    walk_at "e"
    refine s_isP T.ecNP (hE.mono e1) T.b22 ?_
    walk_at "e"
    refine s_isP T.ecNP (hE.mono e1) T.b23 ?_
    walk_at "e"
    refine s_isP T.ecNP (hE.mono e1) T.b24 ?_
    walk_at "e"
    refine s_nwG (by show 3 ≤ 100000; decide) fun p2 H2 _ e2 h2 => ?_
    refine s_cat (e2 _ _ h1) h2 (by show 6 ≤ 100000; decide) fun p3 hp3 => ?_
    exact k p3 [false, false, true, false, false, false] _ ((e1.trans e2).trans (Ex.new hp3)) upd_same rfl
theorem xe_sorts_L (T : Txt K mg) : FxE P w K mg base 1 (ga K "_law_sorts") ["_law_error"] (spSorts K) := let ⟨fd, F⟩ := T.d_sorts_L; ⟨fd, fe_sorts_L T F, F.kp, F.bindsN fun _ _ _ _ _ _ us hl => match us, hl with | [_], _ => rfl⟩
theorem count_bl : ∀ bs : List Bool, ((bs.map V.bl).countP fun z => eqV z (.bl true)) = bs.count true
  | [] => rfl
  | b :: bs => by
    rw [List.map_cons, List.countP_cons, count_bl bs, List.count_cons]
    cases b <;> simp [eqV]
theorem flat_bl (bs : List Bool) : (bs.map V.bl).all flatV = true := by
  rw [List.all_eq_true]
  intro x hx
  obtain ⟨k, _, rfl⟩ := List.mem_map.mp hx
  rfl
def spRefusal (K : PySem.W.Frag) : Addr × Obj → Sp := fun p vs H Q _ => ∃ (D : Addr) (d : Option Addr), vs = [.ref p.1] ∧ IsExc K H p D d ∧
  ((∃ (day : Int) (dd : Addr), D = ga K "BadDay" ∧ d = some dd ∧ H dd = some (.xd [("day", .int day)]) ∧ ∀ (t : Addr) (H' : Hp), Ex H H' → H' t = some (.tup [.str "bad", .int day]) → Q (.ref t) H') ∨
    (D = ga K "NoPot" ∧ ∀ (t : Addr) (H' : Hp), Ex H H' → H' t = some (.tup [.str "none", .int (-1)]) → Q (.ref t) H'))
theorem sc_refusal_L : FnScope ["_law_error"] ["_law_error"] (defScope s_refusal_L) := ⟨rfl, rfl, rfl, by decide +kernel, rfl, by decide +kernel, by decide +kernel⟩
theorem st_refusal_L (p0 : V) : start ["_law_error"] [p0] = [some p0] := rfl
theorem fe_refusal_L (T : Txt K mg) {fd : FuncData} (F : FunD K "_law_refusal" "_law_refusal" (defArgs s_refusal_L) (defBody s_refusal_L) (defScope s_refusal_L) [] [] (ga K "_law_refusal") fd) : FnE P w K mg base 2 (ga K "_law_refusal") fd ["_law_error"] (spRefusal K) := by
  refine okE F (k := 1) sc_refusal_L (fun p vs H Q E h => ?L) (fun cdv A outer s H vs Q E p hr h => ?B)
  case L => first | (obtain ⟨_, rfl, _⟩ := h; rfl) | (obtain ⟨_, _, rfl, _⟩ := h; rfl) | (obtain ⟨_, _, _, rfl, _⟩ := h; rfl) | (obtain ⟨_, _, _, _, rfl, _⟩ := h; rfl) | (obtain ⟨_, _, _, _, _, rfl, _⟩ := h; rfl) | (obtain ⟨_, _, _, _, _, _, rfl, _⟩ := h; rfl) | (obtain ⟨_, _, _, _, _, _, _, rfl, _⟩ := h; rfl) | (obtain ⟨_, _, _, _, _, _, _, _, rfl, _⟩ := h; rfl) | (obtain ⟨_, _, _, _, _, _, _, _, _, rfl, _⟩ := h; rfl) | (obtain ⟨_, _, _, _, _, _, _, _, _, _, rfl, _⟩ := h; rfl) | (obtain ⟨_, _, _, _, _, _, _, _, _, _, _, rfl, _⟩ := h; rfl) | (obtain ⟨_, _, _, _, _, _, _, _, _, _, _, _, rfl, _⟩ := h; rfl) | (obtain ⟨_, _, _, _, _, _, _, _, _, _, _, _, _, rfl, _⟩ := h; rfl)
  case B =>
  refine ⟨_, PSs.nox ((pss_cons (ps_if (PW.pt (pw_or (pt_cmpR op_ne (pe_bm PySem.F.plainAttrs_list PySem.F.slot_list_count PySem.F.type_list_count mt_countF (pe_callX (xe_sorts_L T) hr List.mem_cons_self rfl T.g_sorts_L (pa_cons (pv 0) pa_nil)) (pa_cons pe_bl pa_nil)) pe_int (nomark _)) (pw_or1 (pt_not (pt_val (pe_callB (call_isP List.mem_cons_self) (by rfl) T.f_isinstance (by decide +kernel) (pa_cons (pv 0) (pa_cons (pe_bltn (v := .ty "ValueError") (u := .type "ValueError") (by rfl) T.f_ValueError (by decide +kernel) rfl) pa_nil)))))))) (pss_one (ps_ret pe_non))
      pss_nil)
      (pss_cons (ps_if (pt_val (pe_callB (call_isP List.mem_cons_self) (by rfl) T.f_isinstance (by decide +kernel) (pa_cons (pv 0) (pa_cons (pe_glob (v := .ref _) rfl T.g_BadDay rfl) pa_nil)))) (pss_one (ps_ret (pe_tup (pa_cons pe_str (pa_cons (pe_xp List.mem_cons_self (pv 0)) pa_nil)))))
      pss_nil)
      (pss_one (ps_ret (pe_ifExp (pt_val (pe_callB (call_isP List.mem_cons_self) (by rfl) T.f_isinstance (by decide +kernel) (pa_cons (pv 0) (pa_cons (pe_glob (v := .ref _) rfl T.g_NoPot rfl) pa_nil)))) (pe_tup (pa_cons pe_str (pa_cons (pe_un un_neg pe_int) pa_nil))) pe_non)))))), ?_⟩
  obtain ⟨D, d, rfl, hE, hD⟩ := h
  rw [st_refusal_L]
  walk_at "e"
  refine ⟨D, d, rfl, hE, hD.elim (fun ⟨_, _, q, _⟩ => .inl q) fun q => .inr q.1, fun r bs H1 e1 h1 hc => ?_⟩
  walk_at "e"
  refine s_bm h1 ⟨r, _, .bl true, rfl, rfl, SqL.of h1, rfl, flat_bl bs, ?_⟩
  rw [count_bl, hc]
  walk_at "e"
  rw [if_neg (show ¬ ¬ (((1 : Nat) : Int) = 1) from fun q => q rfl)]
  rcases hD with ⟨day, dd, rfl, rfl, hdd, k⟩ | ⟨rfl, k⟩
  · refine s_isPV T.ecBD (hE.mono e1) T.b18 ?_
    walk_at "e"
    refine s_isP T.ecBD (hE.mono e1) T.b15 ?_
    walk_at "e"
    refine ⟨rfl, _, dd, _, .int day, T.xfBD, T.noDay, hE.cls, hE.data, e1 _ _ hdd, lk0, ?_⟩
    refine s_nwTG (by show 2 ≤ 100000; decide) fun t H2 _ e2 h2 => ?_
    exact k t H2 (e1.trans e2) h2
  · refine s_isPV T.ecNP (hE.mono e1) T.b25 ?_
    walk_at "e"
    refine s_isP T.ecNP (hE.mono e1) T.b22 ?_
    walk_at "e"
    refine s_isP T.ecNP (hE.mono e1) T.b21 ?_
    walk_at "e"
    refine s_nwTG (by show 2 ≤ 100000; decide) fun t H2 _ e2 h2 => ?_
    exact k t H2 (e1.trans e2) h2
theorem xe_refusal_L (T : Txt K mg) : FxE P w K mg base 2 (ga K "_law_refusal") ["_law_error"] (spRefusal K) := let ⟨fd, F⟩ := T.d_refusal_L; ⟨fd, fe_refusal_L T F, F.kp, F.bindsN fun _ _ _ _ _ _ us hl => match us, hl with | [_], _ => rfl⟩
end
end Tk

set_option maxHeartbeats 4000000
/-! Rows of names. -/
namespace Tk
open PySem PySem.Spec PyProof.Rows L2 He Evl
local macro_rules | `(tactic| walk_at "e") => `(tactic| (try simp only [a_seq, a_var0, a_varS, a_c, a_asg, a_name, a_set0, a_setS, a_ret, a_retN, a_ifS, a_drop, a_next, a_op, a_un, a_I0, a_I, a_U, a_bT, a_test, a_B, a_and, a_or, a_not, a_andV, a_orV, a_notV, a_if, a_isN, a_notN, a_nil, a_cons, a_CB, a_lst, a_tup, a_dget, a_din, a_dnotin, a_dput, a_newK, a_revL, a_getN, a_putN, a_newN, a_forL, a_forT, a_forR, a_lcL, a_lcR, a_yes, a_w0, a_w1, cx_K, cx_P, cx_w, a_eqI, a_neI, a_eqS, a_neS, a_call, a_callS, a_clsFn, a_meth, a_make, a_fld, a_fldS, a_BM, a_BM0, a_sl, a_noP, a_part, a_intP, a_gTup, a_gNil, a_gCons, a_gSub, a_ipI, a_ipMul, a_aug, a_augS, a_chain, m_and, m_or, a_xp, cxh_K, a_veI, a_ost, a_mkK, a_nn, not_false_eq_true, not_true_eq_false, Option.map_some, Option.map_none, Option.isSome_some, Option.isSome_none, List.map_cons, List.map_nil, true_and, and_true, true_or, or_true, false_and, and_false, false_or, or_false, if_true, if_false, Bool.false_eq_true, decide_eq_true_eq, Bool.not_eq_true, Bool.not_true, Bool.not_false, decide_eq_false_iff_not, Bool.not_eq_eq_eq_not, reduceCtorEq, Bool.true_eq_false, List.cons_append, List.nil_append, List.append_nil]))
local macro_rules | `(tactic| walk_at "1") => `(tactic| ((try simp only [a_var0, a_varS, a_c, a_asg, a_name, a_set0, a_setS, a_ret, a_retN, a_ifS, a_drop, a_next, a_op, a_un, a_I0, a_I, a_U, a_bT, a_test, a_B, a_and, a_or, a_not, a_andV, a_orV, a_notV, a_if, a_isN, a_notN, a_nil, a_cons, a_CB, a_lst, a_tup, a_dget, a_din, a_dnotin, a_dput, a_newK, a_revL, a_getN, a_putN, a_newN, a_forL, a_forT, a_forR, a_lcL, a_lcR, a_yes, a_w0, a_w1, cx_K, cx_P, cx_w, a_eqI, a_neI, a_eqS, a_neS, a_call, a_callS, a_clsFn, a_meth, a_make, a_fld, a_fldS, a_BM, a_BM0, a_sl, a_noP, a_part, a_intP, a_gTup, a_gNil, a_gCons, a_gSub, a_ipI, a_ipMul, a_aug, a_augS, a_chain, m_and, m_or, a_xp, cxh_K, a_veI, a_ost, a_mkK, a_nn, not_false_eq_true, not_true_eq_false, Option.map_some, Option.map_none, Option.isSome_some, Option.isSome_none, List.map_cons, List.map_nil, true_and, and_true, true_or, or_true, false_and, and_false, false_or, or_false, if_true, if_false, Bool.false_eq_true, decide_eq_true_eq, Bool.not_eq_true, Bool.not_true, Bool.not_false, decide_eq_false_iff_not, Bool.not_eq_eq_eq_not, reduceCtorEq, Bool.true_eq_false, List.cons_append, List.nil_append, List.append_nil]); rw [a_seq]; (try simp only [a_var0, a_varS, a_c, a_asg, a_name, a_set0, a_setS, a_ret, a_retN, a_ifS, a_drop, a_next, a_op, a_un, a_I0, a_I, a_U, a_bT, a_test, a_B, a_and, a_or, a_not, a_andV, a_orV, a_notV, a_if, a_isN, a_notN, a_nil, a_cons, a_CB, a_lst, a_tup, a_dget, a_din, a_dnotin, a_dput, a_newK, a_revL, a_getN, a_putN, a_newN, a_forL, a_forT, a_forR, a_lcL, a_lcR, a_yes, a_w0, a_w1, cx_K, cx_P, cx_w, a_eqI, a_neI, a_eqS, a_neS, a_call, a_callS, a_clsFn, a_meth, a_make, a_fld, a_fldS, a_BM, a_BM0, a_sl, a_noP, a_part, a_intP, a_gTup, a_gNil, a_gCons, a_gSub, a_ipI, a_ipMul, a_aug, a_augS, a_chain, m_and, m_or, a_xp, cxh_K, a_veI, a_ost, a_mkK, a_nn, not_false_eq_true, not_true_eq_false, Option.map_some, Option.map_none, Option.isSome_some, Option.isSome_none, List.map_cons, List.map_nil, true_and, and_true, true_or, or_true, false_and, and_false, false_or, or_false, if_true, if_false, Bool.false_eq_true, decide_eq_true_eq, Bool.not_eq_true, Bool.not_true, Bool.not_false, decide_eq_false_iff_not, Bool.not_eq_eq_eq_not, reduceCtorEq, Bool.true_eq_false, List.cons_append, List.nil_append, List.append_nil])))
local macro_rules | `(tactic| walk_at "0") => `(tactic| (try simp only [a_var0, a_varS, a_c, a_asg, a_name, a_set0, a_setS, a_ret, a_retN, a_ifS, a_drop, a_next, a_op, a_un, a_I0, a_I, a_U, a_bT, a_test, a_B, a_and, a_or, a_not, a_andV, a_orV, a_notV, a_if, a_isN, a_notN, a_nil, a_cons, a_CB, a_lst, a_tup, a_dget, a_din, a_dnotin, a_dput, a_newK, a_revL, a_getN, a_putN, a_newN, a_forL, a_forT, a_forR, a_lcL, a_lcR, a_yes, a_w0, a_w1, cx_K, cx_P, cx_w, a_eqI, a_neI, a_eqS, a_neS, a_call, a_callS, a_clsFn, a_meth, a_make, a_fld, a_fldS, a_BM, a_BM0, a_sl, a_noP, a_part, a_intP, a_gTup, a_gNil, a_gCons, a_gSub, a_ipI, a_ipMul, a_aug, a_augS, a_chain, m_and, m_or, a_xp, cxh_K, a_veI, a_ost, a_mkK, a_nn, not_false_eq_true, not_true_eq_false, Option.map_some, Option.map_none, Option.isSome_some, Option.isSome_none, List.map_cons, List.map_nil, true_and, and_true, true_or, or_true, false_and, and_false, false_or, or_false, if_true, if_false, Bool.false_eq_true, decide_eq_true_eq, Bool.not_eq_true, Bool.not_true, Bool.not_false, decide_eq_false_iff_not, Bool.not_eq_eq_eq_not, reduceCtorEq, Bool.true_eq_false, List.cons_append, List.nil_append, List.append_nil]))
section
variable {P : Program} {w : World} {K : PySem.W.Frag} {mg : Str → Option Value} {base : Heap}
theorem cut_map {α : Type} (f : α → V) (ss : List α) (lo hi : Option Int) : ∃ ss' : List α, cutV (ss.map f) lo hi = ss'.map f ∧ (∀ s ∈ ss', s ∈ ss) ∧ ss'.length ≤ ss.length :=
  ⟨(ss.drop (HT.sIx (ss.map f).length 0 lo)).take (HT.sIx (ss.map f).length (ss.map f).length hi - HT.sIx (ss.map f).length 0 lo), by unfold cutV; rw [List.map_take, List.map_drop], fun s hs => List.mem_of_mem_drop (List.mem_of_mem_take hs), by
    rw [List.length_take, List.length_drop]
    omega⟩
theorem dq_strs {H : Hp} (ss : List Str) : DqAll H (ss.map V.str) (ss.map PyData.str) := by
  induction ss with
  | nil => exact .nil
  | cons w ws ih => exact .cons (.str _) ih
theorem rowD_strs {ss : List Str} (hl : ss.length ≤ 1000) (h : ∀ s ∈ ss, s ∈ five) : RowD (ss.map PyData.str) := ⟨by rw [List.length_map]; exact hl, fun d hd => by
  obtain ⟨s, hs, rfl⟩ := List.mem_map.mp hd
  exact .inl ⟨s, (show ∀ n ∈ five, PyData.strOk n = true by decide +kernel) _ (h s hs), rfl⟩⟩
theorem sta_del {H : Hp} {M : Addr} {v : V} {st : Stt} {xs : List V} (h : StA H v st) (hM : H M = some (.lst xs)) : StA (del H M) v st := by
  have key : ∀ (b : Addr) (ys : List V), H b = some (.tup ys) → del H M b = some (.tup ys) := fun b ys hb => by
    rw [del_ne (fun q => by rw [q, hM] at hb; cases hb)]
    exact hb
  obtain ⟨z1, z2, h2, h3, h4⟩ := h
  exact ⟨z1, z2, h2, key _ _ h3, key _ _ h4⟩
theorem ch_dq {g : Gd} {H : Hp} : ∀ {us : List V}, ChIn g H us → ∃ ds, DqAll H us ds ∧ SeqAt.shaped (.list ds) = true := fun {us} h => by
  have key : ∀ us : List V, ChIn g H us → ∃ ds, DqAll H us ds ∧ ∀ d ∈ ds, d.canLay0 = true ∧ d.depth ≤ 3 := by
    intro us
    induction us with
    | nil => exact fun _ => ⟨[], .nil, fun d hd => by cases hd⟩
    | cons u us ih =>
      intro h
      obtain ⟨ds, h1, h2⟩ := ih fun w hw => h w (List.mem_cons_of_mem _ hw)
      obtain ⟨t, c, v, st, rfl, ht, hc, hv, hs⟩ := h u List.mem_cons_self
      refine ⟨.tuple [.int (c : Nat), stD st] :: ds, .cons (.tup ht (.cons (.int _) (.one hv.dq))) h1, fun d hd => ?_⟩
      rcases List.mem_cons.mp hd with q | q
      · rw [q]
        exact tup_lay (n := 2) fun e he => by
          have h : e = .int (c : Nat) ∨ e = stD st := by simpa using he
          rcases h with rfl | rfl
          · exact ⟨by simp [PyData.canLay0], by simp [PyData.depth]⟩
          · exact st_lay st
      · exact h2 d q
  obtain ⟨ds, h1, h2⟩ := key us h
  exact ⟨ds, h1, shaped_lay (list_lay h2) (by decide)⟩
def spRowsL (K : PySem.W.Frag) : Sp := fun vs H Q _ => ∃ (a l : Addr) (us : List V) (g : Gd) (sc : Addr) (ns : List Int) (f m : Nat) (wild : Bool), vs = [.ref a, .ref sc, .int (f : Nat), .int (m : Nat), .bl wild] ∧ SpIn H a l us g ∧ g.Ok ∧ SqL K H sc (ns.map V.int) ∧ m ≤ 1000 ∧
  ∀ (p : Addr) (rows : List (List PyData)) (H' : Hp), Ex H H' → Dq H' (.ref p) (.list (rows.map .list)) → RowsD rows → rows.length ≤ 1000 → Q (.ref p) H'
theorem sc_rows_L : FnScope ["_law_spec_here", "_law_script", "_law_first", "_law_many", "_law_wild", "_law_names", "_law_state", "_law_rows_here", "_law_at", "_law_cell", "_law_steps_here", "_law_row", "_law_chosen", "_law_odd", "_law_name", "_law_gap", "_law_rest", "_law_k"] ["_law_spec_here", "_law_script", "_law_first", "_law_many", "_law_wild"] (defScope s_rows_L) := ⟨rfl, rfl, rfl, by decide +kernel, rfl, by decide +kernel, by decide +kernel⟩
theorem st_rows_L (p0 p1 p2 p3 p4 : V) : start ["_law_spec_here", "_law_script", "_law_first", "_law_many", "_law_wild", "_law_names", "_law_state", "_law_rows_here", "_law_at", "_law_cell", "_law_steps_here", "_law_row", "_law_chosen", "_law_odd", "_law_name", "_law_gap", "_law_rest", "_law_k"] [p0, p1, p2, p3, p4] = [some p0, some p1, some p2, some p3, some p4, none, none, none, none, none, none, none, none, none, none, none, none, none] := rfl
theorem fn_rows_L (T : Txt K mg) {fd : FuncData} (F : FunD K "_law_rows" "_law_rows" (defArgs s_rows_L) (defBody s_rows_L) (defScope s_rows_L) [] [] (ga K "_law_rows") fd) : FnOk P w K mg base CX0 3 (ga K "_law_rows") fd ["_law_spec_here", "_law_script", "_law_first", "_law_many", "_law_wild"] (spRowsL K) := by
  refine F.ok (CX := CX0) (k := 2) sc_rows_L (fun vs H Q E h => ?L) (fun cdv A outer s H vs Q E hr h => ?B)
  case L => first | (obtain ⟨_, rfl, _⟩ := h; rfl) | (obtain ⟨_, _, rfl, _⟩ := h; rfl) | (obtain ⟨_, _, _, rfl, _⟩ := h; rfl) | (obtain ⟨_, _, _, _, rfl, _⟩ := h; rfl) | (obtain ⟨_, _, _, _, _, rfl, _⟩ := h; rfl) | (obtain ⟨_, _, _, _, _, _, rfl, _⟩ := h; rfl) | (obtain ⟨_, _, _, _, _, _, _, rfl, _⟩ := h; rfl) | (obtain ⟨_, _, _, _, _, _, _, _, rfl, _⟩ := h; rfl) | (obtain ⟨_, _, _, _, _, _, _, _, _, rfl, _⟩ := h; rfl) | (obtain ⟨_, _, _, _, _, _, _, _, _, _, rfl, _⟩ := h; rfl) | (obtain ⟨_, _, _, _, _, _, _, _, _, _, _, rfl, _⟩ := h; rfl) | (obtain ⟨_, _, _, _, _, _, _, _, _, _, _, _, rfl, _⟩ := h; rfl) | (obtain ⟨_, _, _, _, _, _, _, _, _, _, _, _, _, rfl, _⟩ := h; rfl)
  case B =>
  refine ⟨_, PSs.nox ((pss_cons (ps_set (i := 5) sc_rows_L.nd rfl (Or.inr rfl) (pe_lc (own := [("_law_name", 14), ("_law_gap", 15), ("_law_rest", 16)]) (g := (gTup K 3 (gCons (gName 14) (gCons (gName 15) (gCons (gName 16) gNil))))) (tt := tYes) (te := (tVar 14)) rfl sc_rows_L.nd (pi_list (pe_ix ix_tup (pv 0) pe_int (fun _ _ => rfl))) (blkOk_by (own := [("_law_name", 14), ("_law_gap", 15), ("_law_rest", 16)]) (N := ["_law_spec_here", "_law_script", "_law_first", "_law_many", "_law_wild", "_law_names", "_law_state", "_law_rows_here", "_law_at", "_law_cell", "_law_steps_here", "_law_row", "_law_chosen", "_law_odd", "_law_name", "_law_gap", "_law_rest", "_law_k"]) (sc := defScope s_rows_L) (by decide +kernel)) (fun _ _ _ _ _ => (pg_tup rfl (pgs_cons (pg_name (i := 14) sc_rows_L.nd rfl (Or.inl rfl)) (pgs_cons (pg_name (i := 15) sc_rows_L.nd rfl (Or.inl rfl)) (pgs_cons (pg_name (i := 16) sc_rows_L.nd rfl (Or.inl rfl)) pgs_nil))))) (fun _ _ _ _ _ => pts_nil) (fun _ _ _ _ _ => (pv 14))))
      (pss_cons (ps_set (i := 6) sc_rows_L.nd rfl (Or.inl rfl) (pe_tup (pa_cons pe_int (pa_cons (pe_callTy call_tupO (by rfl) T.f_tuple (by decide +kernel) (pa_cons (pe_lc (own := [("_law_name", 14)]) (g := (gName 14)) (tt := tYes) (te := (tC (.int 0))) rfl sc_rows_L.nd (pi_list (pv 5)) (blkOk_by (own := [("_law_name", 14)]) (N := ["_law_spec_here", "_law_script", "_law_first", "_law_many", "_law_wild", "_law_names", "_law_state", "_law_rows_here", "_law_at", "_law_cell", "_law_steps_here", "_law_row", "_law_chosen", "_law_odd", "_law_name", "_law_gap", "_law_rest", "_law_k"]) (sc := defScope s_rows_L) (by decide +kernel)) (fun _ _ _ _ _ => (pg_name (i := 14) sc_rows_L.nd rfl (Or.inl rfl))) (fun _ _ _ _ _ => pts_nil) (fun _ _ _ _ _ => pe_int)) pa_nil)) pa_nil))))
      (pss_cons (ps_set (i := 7) sc_rows_L.nd rfl (Or.inl rfl) (pe_lst pa_nil))
      (pss_cons (ps_for PassesOwn.never rfl (pi_range1 rfl T.f_range (pa_cons (pv 3) pa_nil)) (pg_name (i := 8) sc_rows_L.nd rfl (Or.inl rfl))
      (pss_cons (ps_set (i := 9) sc_rows_L.nd rfl (Or.inr rfl) (pe_op op_add (pe_df (ok_cell_at_L T) (hr.mono (by decide)) rfl pass0 (pa_cons (pv 1) (pa_cons (pe_op op_add (pv 2) (pv 8)) pa_nil))) (pe_op op_mul pe_int (pv 8))))
      (pss_cons (ps_set (i := 10) sc_rows_L.nd rfl (Or.inl rfl) (pe_df (ok_steps_L T) (hr.mono (by decide)) rfl pass0 (pa_cons (pv 0) (pa_cons (pv 6) pa_nil))))
      (pss_cons (ps_set (i := 11) sc_rows_L.nd rfl (Or.inl rfl) (pe_slice sl_list (pe_lc (own := [("_law_name", 14)]) (g := (gName 14)) (tt := (tTest (tOp _ (tCall _ [] _ (tCons (tVar 9) (tCons (tCB rLenX (tCons (tVar 14) tNil)) (tCons (tC (.int 2)) tNil)))) (tC (.int 0))))) (te := (tVar 14)) rfl sc_rows_L.nd (pi_list (pv 5)) (blkOk_by (own := [("_law_name", 14)]) (N := ["_law_spec_here", "_law_script", "_law_first", "_law_many", "_law_wild", "_law_names", "_law_state", "_law_rows_here", "_law_at", "_law_cell", "_law_steps_here", "_law_row", "_law_chosen", "_law_odd", "_law_name", "_law_gap", "_law_rest", "_law_k"]) (sc := defScope s_rows_L) (by decide +kernel)) (fun _ _ _ _ _ => (pg_name (i := 14) sc_rows_L.nd rfl (Or.inl rfl))) (fun _ _ _ _ _ => (pts_one (pt_cmpR op_eq (pe_df (ok_draw_L T) (hr.mono (by decide)) rfl pass0 (pa_cons (pv 9) (pa_cons (pe_callB call_lenX (by rfl) T.f_len (by decide +kernel) (pa_cons (pv 14) pa_nil)) (pa_cons pe_int pa_nil)))) pe_int (nomark _)))) (fun _ _ _ _ _ => (pv 14))) po_none (po_some pe_int)))
      (pss_cons (ps_if (PW.pt (pw_and (pt_cmpR (op_neD (hu_64 hr)) (pv 10) (pe_lst pa_nil) (nomark _)) (pw_and1 (pt_cmpR op_gt (pe_df (ok_draw_L T) (hr.mono (by decide)) rfl pass0 (pa_cons (pv 9) (pa_cons pe_int (pa_cons pe_int pa_nil)))) pe_int (nomark _))))) (pss_cons (ps_asg (pe_ix ix_list (pv 10) (pe_df (ok_draw_L T) (hr.mono (by decide)) rfl pass0 (pa_cons (pv 9) (pa_cons pe_int (pa_cons (pe_callB call_lenQ (by rfl) T.f_len (by decide +kernel) (pa_cons (pv 10) pa_nil)) pa_nil)))) (fun _ _ => rfl)) (pg_tup rfl (pgs_cons (pg_name (i := 12) sc_rows_L.nd rfl (Or.inr rfl)) (pgs_cons (pg_name (i := 6) sc_rows_L.nd rfl (Or.inl rfl)) pgs_nil))))
      (pss_one (ps_setLc (i := 11) (own := [("_law_k", 17)]) (g := (gName 17)) (tt := (tTest (tOp _ (tOp _ (tOp _ (tVar 12) (tVar 17)) (tC (.int 1))) (tC (.int 1))))) (te := (tOp (rIxL K) (tVar 5) (tVar 17))) rfl sc_rows_L.nd rfl rfl (sw_true rfl rfl rfl (by decide +kernel)) (pi_range1 rfl T.f_range (pa_cons (pe_callB call_lenQ (by rfl) T.f_len (by decide +kernel) (pa_cons (pv 5) pa_nil)) pa_nil)) (blkOk_by (own := [("_law_k", 17)]) (N := ["_law_spec_here", "_law_script", "_law_first", "_law_many", "_law_wild", "_law_names", "_law_state", "_law_rows_here", "_law_at", "_law_cell", "_law_steps_here", "_law_row", "_law_chosen", "_law_odd", "_law_name", "_law_gap", "_law_rest", "_law_k"]) (sc := defScope s_rows_L) (by decide +kernel)) (fun _ _ _ _ _ => (pg_name (i := 17) sc_rows_L.nd rfl (Or.inl rfl))) (fun _ _ _ _ _ => (pts_one (pt_cmpR op_eq (pe_op op_and (pe_op op_shr (pv 12) (pv 17)) pe_int) pe_int (nomark _)))) (fun _ _ _ _ _ => (pe_ix ix_list (pv 5) (pv 17) (fun _ _ => rfl))))))
      pss_nil)
      (pss_cons (ps_if (PW.pt (pw_and (pt_val (pv 4)) (pw_and1 (pt_cmpR op_eq (pe_df (ok_draw_L T) (hr.mono (by decide)) rfl pass0 (pa_cons (pv 9) (pa_cons pe_int (pa_cons pe_int pa_nil)))) pe_int (nomark _))))) (pss_cons (ps_set (i := 13) sc_rows_L.nd rfl (Or.inl rfl) (pe_lst (pa_cons (pe_lst (pa_cons (pe_ix ix_list (pv 5) pe_int (fun _ _ => rfl)) pa_nil)) (pa_cons (pe_lst (pa_cons pe_str pa_nil)) (pa_cons (pe_lst (pa_cons (pe_ix ix_list (pv 5) pe_int (fun _ _ => rfl)) (pa_cons (pe_ix ix_list (pv 5) pe_int (fun _ _ => rfl)) (pa_cons pe_str pa_nil)))) (pa_cons (pe_lst (pa_cons pe_non pa_nil)) (pa_cons (pe_lst (pa_cons pe_int pa_nil)) (pa_cons (pe_lst (pa_cons (pe_lst (pa_cons pe_str pa_nil)) pa_nil)) (pa_cons (pe_lst (pa_cons pe_str pa_nil)) (pa_cons (pe_lst (pa_cons pe_str pa_nil)) pa_nil))))))))))
      (pss_one (ps_set (i := 11) sc_rows_L.nd rfl (Or.inl rfl) (pe_op op_cat (pv 11) (pe_ix ix_list (pv 13) (pe_df (ok_draw_L T) (hr.mono (by decide)) rfl pass0 (pa_cons (pv 9) (pa_cons pe_int (pa_cons pe_int pa_nil)))) (fun _ _ => rfl))))))
      pss_nil)
      (pss_one (ps_expr (pe_bm PySem.F.plainAttrs_list PySem.F.slot_list_append PySem.F.type_list_append mt_append (pv 7) (pa_cons (pe_ifExp (pt_cmpR op_eq (pe_op op_mod (pv 9) pe_int) pe_int (nomark _)) (pe_revL (pv 11)) (pv 11)) pa_nil))))))))))
      (pss_one (ps_ret (pv 7)))))))), ?_⟩
  obtain ⟨a, l, us, g, sc, ns, f, m, wild, rfl, hS, ok, hsc, hm, k⟩ := h
  have hn3 := ok.n3
  rw [st_rows_L]
  walk_at "1"
  have i0 : atI [V.ref l, V.int g.cans, V.int g.week, V.int g.closed] 0 = some (.ref l) := rfl
  refine s_ixT hS.tup i0 ?_
  refine s_lcL hS.lst (fun i acc H1 => acc = (g.pots.take i).map fun p => V.str p.name) rfl ?_ ?_
  · rintro i x acc D H1 hD hx h1 h2 e rfl
    have hi : i < g.pots.length := by rw [← hS.len]; exact (List.getElem?_eq_some_iff.mp hx).1
    obtain ⟨p, hp⟩ : ∃ p, g.pots[i]? = some p := ⟨_, List.getElem?_eq_getElem hi⟩
    obtain ⟨t, ht, hT⟩ := hS.pot hp
    rw [hx] at ht
    cases ht
    have e1 : Ex H H1 := e.trans ex_del
    walk_at "e"
    refine s_tupG (e1 _ _ hT) rfl ?_
    walk_at "e"
    exact lc_y (by omega) h1 h2 e (Ex.refl _) (by rw [take_succ hp, List.map_append]; rfl)
  rintro Nm H1 acc hNm h1 h2 e rfl
  rw [hS.len, List.take_length] at h1
  have e1 : Ex H H1 := e.trans ex_del
  have hnl : (g.pots.map fun p => V.str p.name).length = g.pots.length := List.length_map _
  walk_at "1"
  refine s_lcL h1 (fun i acc H1 => acc = List.replicate i (V.int 0)) rfl ?_ ?_
  · rintro i x acc D H2 hD hx q1 q2 e2 rfl
    have hi := (List.getElem?_eq_some_iff.mp hx).1
    rw [hnl] at hi
    walk_at "e"
    exact lc_y (by omega) q1 q2 e2 (Ex.refl _) (rep_succ i)
  rintro Z H2 acc hZ q1 q2 e2 rfl
  have e12 : Ex H1 H2 := e2.trans ex_del
  refine s_tupL q1 fun t1 ht1 => ?_
  walk_at "0"
  refine s_nwT (by show 2 ≤ 100000; decide) fun t2 ht2 => ?_
  have e3 : Ex H1 (upd (upd H2 t1 (.tup (List.replicate (g.pots.map fun p => V.str p.name).length (V.int 0)))) t2 (.tup [V.int 0, V.ref t1])) := ex_upd (ex_upd e12 ht1) ht2
  have hfr : StA (upd (upd H2 t1 (.tup (List.replicate (g.pots.map fun p => V.str p.name).length (V.int 0)))) t2 (.tup [V.int 0, V.ref t1])) (.ref t2) (freshS g) := by
    refine ⟨t2, t1, rfl, upd_same, ?_⟩
    rw [upd_ne (ne_new upd_same ht2), upd_same, hnl]
    show some (HO.tup _) = some (HO.tup ((g.pots.map fun _ => (0 : Int)).map V.int))
    rw [List.map_map, ← map_zero]
    rfl
  show tSeq _ _ _ _ (upd (upd H2 t1 (.tup (List.replicate (g.pots.map fun p => V.str p.name).length (V.int 0)))) t2 (.tup [V.int 0, V.ref t1]))
  generalize upd (upd H2 t1 (.tup (List.replicate (g.pots.map fun p => V.str p.name).length (V.int 0)))) t2 (.tup [V.int 0, V.ref t1]) = H3 at e3 hfr
  walk_at "1"
  refine s_nil fun F hF => ?_
  have eF : Ex H3 (upd H3 F (.lst [])) := Ex.new hF
  have hNm3 : H3 Nm = some (.lst (g.pots.map fun p => V.str p.name)) := e3 _ _ h1
  have e03 : Ex H H3 := e1.trans e3
  walk_at "1"
  refine s_forR (by omega) (fun i σ H4 => ∃ (sv : V) (st : Stt) (vs : List V) (rows : List (List PyData)) (w8 w9 w10 w11 w12 w13 : Option V), σ = [some (.ref a), some (.ref sc), some (.int (f : Nat)), some (.int (m : Nat)), some (.bl wild), some (.ref Nm), some sv, some (.ref F), w8, w9, w10, w11, w12, w13, none, none, none, none] ∧
      Ex H3 (del H4 F) ∧ H4 F = some (.lst vs) ∧ DqAll (del H4 F) vs (rows.map .list) ∧ (∀ r ∈ rows, RowD r) ∧ rows.length = i ∧ StA (del H4 F) sv st ∧ StOk g st)
    ⟨.ref t2, freshS g, [], [], none, none, none, none, none, none, rfl, ex_into eF hF, upd_same, .nil, fun r hr => (by cases hr), rfl, hfr.mono (ex_into eF hF), fresh_ok ok⟩ ?_ ?_
  · rintro N i σ H4 hi ⟨sv, st, vs, rows, w8, w9, w10, w11, w12, w13, rfl, e4, hH, hdq, hrd, hrl, hst', hs⟩ hN
    have hst := hst'.mono (ex_del (H := H4) (p := F))
    have e34 : Ex H3 H4 := e4.trans ex_del
    have e04 := e03.trans e34
    walk_at "1"
    refine ⟨sc, ns, f + i, rfl, ex_l e04 hsc, fun z => ?_⟩
    walk_at "0"
    refine ⟨.inl (by omega), ?_⟩
    generalize z + 7 * ((i : Nat) : Int) = cell
    walk_at "1"
    refine ⟨a, l, us, g, sv, st, rfl, hS.mono e04, ok, hst, hs, fun sp sus H5 e5 hsp hsl hch => ?_⟩
    have e35 := e34.trans e5
    walk_at "1"
    have hF5 : H5 F = some (.lst vs) := e5 _ _ hH
    have hNm5 : H5 Nm = some (.lst (g.pots.map fun p => V.str p.name)) := e35 _ _ hNm3
    refine s_lcL hNm5 (fun j acc H6 => ∃ ss : List Str, acc = ss.map V.str ∧ (∀ s ∈ ss, s ∈ five) ∧ ss.length ≤ j) ⟨[], rfl, fun s hs => (by cases hs), Nat.le_refl _⟩ ?_ ?_
    · rintro j x acc D H6 hD hx y1 y2 e6 ⟨ss, rfl, hfv, hssl⟩
      rw [List.getElem?_map] at hx
      obtain ⟨p, hp, rfl⟩ := Option.map_eq_some_iff.mp hx
      have hjl := (List.getElem?_eq_some_iff.mp hp).1
      have hpn := ok.nm p (List.mem_of_getElem? hp)
      obtain ⟨l1, l2, _⟩ := five_len _ hpn
      walk_at "e"
      refine s_lenX (by omega) ?_
      refine ⟨cell, _, 2, rfl, by decide, fun r H7 r0 r1 e7 => ?_⟩
      walk_at "e"
      by_cases hr0 : r = 0
      · rw [if_pos hr0]
        exact lc_y (by omega) y1 y2 e6 e7 ⟨ss ++ [p.name], by rw [List.map_append]; rfl, fun s hs => by
          rcases List.mem_append.mp hs with q | q
          · exact hfv s q
          · have : s = p.name := by simpa using q
            rw [this]
            exact hpn, by simp; omega⟩
      · rw [if_neg hr0]
        exact lc_n y1 y2 e6 e7 ⟨ss, rfl, hfv, by omega⟩
    rintro R0 H6 acc hR0 y1 y2 e6 ⟨ss, rfl, hfv, hssl⟩
    rw [hnl] at hssl
    have e56 : Ex H5 H6 := e6.trans ex_del
    refine s_slL y1 fun R hR => ?_
    obtain ⟨ss', hcut, hsub, hsl'⟩ := cut_map V.str ss none (some 2)
    rw [hcut]
    have nRF : R ≠ F := fun q => by rw [q, (e56 _ _ hF5)] at hR; cases hR
    have e57 : Ex H5 (upd H6 R (.lst (ss'.map V.str))) := ex_upd e56 hR
    have dR : Dq (del (upd H6 R (.lst (ss'.map V.str))) F) (.ref R) (.list (ss'.map PyData.str)) := .lst (by rw [del_ne nRF, upd_same]) (dq_strs _)
    have rR : RowD (ss'.map PyData.str) := rowD_strs (by omega) fun s hs => hfv s (hsub s hs)
    have lR : (ss'.map PyData.str).length ≤ 3 := by rw [List.length_map]; omega
    show tSeq _ _ _ _ (upd H6 R (.lst (ss'.map V.str)))
    generalize upd H6 R (.lst (ss'.map V.str)) = H7 at e57 dR
    generalize ss'.map PyData.str = row at dR rR lR
    clear hcut hsub hsl'
    refine s_cut (fun σ H8 => ∃ (sv' : V) (st' : Stt) (R : Addr) (row : List PyData) (w12 : Option V), σ = [some (.ref a), some (.ref sc), some (.int (f : Nat)), some (.int (m : Nat)), some (.bl wild), some (.ref Nm), some sv', some (.ref F), some (.int (i : Nat)), some (.int cell), some (.ref sp), some (.ref R), w12, w13, none, none, none, none] ∧
      Ex H5 H8 ∧ StA (del H8 F) sv' st' ∧ StOk g st' ∧ Dq (del H8 F) (.ref R) (.list row) ∧ RowD row ∧ row.length ≤ 3) ?_ ?_
    rotate_left
    · intro M hM
      have skip : ∀ H8, Ex H7 H8 → M [some (.ref a), some (.ref sc), some (.int (f : Nat)), some (.int (m : Nat)), some (.bl wild), some (.ref Nm), some sv, some (.ref F), some (.int (i : Nat)), some (.int cell), some (.ref sp), some (.ref R), w12, w13, none, none, none, none] H8 := fun H8 e8 =>
        hM _ _ ⟨sv, st, R, row, w12, rfl, e57.trans e8, hst'.mono (ex_del2 ((e5.trans e57).trans e8)), hs, dR.mono (ex_del2 e8) _, rR, lR⟩
      walk_at "e"
      refine s_nwG (Nat.zero_le _) fun z1 H8 hz1 e8 h8 => ?_
      have e78 : Ex H7 H8 := e8
      have e58 := e57.trans e8
      obtain ⟨ds, hds, hdsh⟩ := ch_dq (hch.mono e58)
      refine s_neN (l := ds) (.lst (e58 _ _ hsp) hds) hdsh h8 ?_
      walk_at "e"
      by_cases hds0 : ds = []
      · rw [if_neg (fun q => q hds0)]
        exact skip _ e78
      · rw [if_pos hds0]
        refine ⟨cell, 5, 8, rfl, by decide, fun r H9 r0 r1 e9 => ?_⟩
        walk_at "e"
        have e79 := e78.trans e9
        by_cases hr0 : 0 < r
        · rw [if_pos hr0]
          have e59 := e58.trans e9
          refine s_lenL (e59 _ _ hsp) ?_
          have hpos : 0 < sus.length := by
            rcases Nat.eq_zero_or_pos sus.length with q | q
            · exact absurd (List.eq_nil_of_length_eq_zero (by rw [← hds.len]; exact q)) hds0
            · exact q
          refine ⟨cell, 6, _, rfl, by omega, fun r2 H10 s0 s1 e10 => ?_⟩
          walk_at "e"
          have e510 := e59.trans e10
          obtain ⟨u, hu⟩ : ∃ u, sus[r2.toNat]? = some u := ⟨_, List.getElem?_eq_getElem (by omega)⟩
          obtain ⟨tt, c, v2, st2, rfl, htt, hc, hv2, hok2⟩ := (hch.mono e510) u (List.mem_of_getElem? hu)
          refine s_ixL (e510 _ _ hsp) (at_int s0 hu) (s_tupG htt rfl ?_)
          walk_at "e"
          have e710 := e79.trans e10
          have hNm10 := e510 _ _ hNm5
          refine s_lenL hNm10 ?_
          walk_at "e"
          rw [hnl]
          refine s_lcR (by omega) (fun j acc H11 => ∃ ss : List Str, acc = ss.map V.str ∧ (∀ s ∈ ss, s ∈ five) ∧ ss.length ≤ j) ⟨[], rfl, fun s hs => (by cases hs), Nat.le_refl _⟩ ?_ ?_
          · rintro j acc D H11 hD hj x1 x2 e11 ⟨ss, rfl, hfv, hssl⟩
            obtain ⟨p, hp⟩ : ∃ p, g.pots[j]? = some p := ⟨_, List.getElem?_eq_getElem hj⟩
            have hpn := ok.nm p (List.mem_of_getElem? hp)
            walk_at "e"
            refine ⟨by omega, ?_⟩
            by_cases hb : c.testBit j = true
            · rw [if_pos ((bit1 c j).mpr hb)]
              refine s_ixL (ex_del _ _ (e11 _ _ hNm10)) (at_nat (v := .str p.name) (by rw [List.getElem?_map, hp]; rfl)) ?_
              exact lc_y (by omega) x1 x2 e11 (Ex.refl _) ⟨ss ++ [p.name], by rw [List.map_append]; rfl, fun s hs => by
                rcases List.mem_append.mp hs with q | q
                · exact hfv s q
                · have : s = p.name := by simpa using q
                  rw [this]
                  exact hpn, by simp; omega⟩
            · rw [if_neg (fun q => hb ((bit1 c j).mp q))]
              exact lc_n x1 x2 e11 (Ex.refl _) ⟨ss, rfl, hfv, by omega⟩
          · rintro R1 H11 acc hR1 x1 x2 e11 ⟨ss, rfl, hfv, hssl⟩
            have e1011 : Ex H10 H11 := e11.trans ex_del
            have hF10 := e510 _ _ hF5
            have nR1F : R1 ≠ F := fun q => by rw [q, hF10] at hR1; cases hR1
            refine hM _ _ ⟨v2, st2, R1, ss.map PyData.str, _, rfl, e510.trans e1011, ?_, hok2, .lst (by rw [del_ne nR1F]; exact x1) (dq_strs _), rowD_strs (by omega) hfv, by rw [List.length_map]; omega⟩
            exact sta_del (hv2.mono e1011) (e1011 _ _ hF10)
        · rw [if_neg hr0]
          exact skip _ e79
    rintro σ H8 ⟨sv', st', R, row, w12, rfl, e8, hst8, hs8, dR, rR, lR⟩
    refine s_cut (fun σ H9 => ∃ (R : Addr) (row : List PyData) (w13 : Option V), σ = [some (.ref a), some (.ref sc), some (.int (f : Nat)), some (.int (m : Nat)), some (.bl wild), some (.ref Nm), some sv', some (.ref F), some (.int (i : Nat)), some (.int cell), some (.ref sp), some (.ref R), w12, w13, none, none, none, none] ∧
      Ex H8 H9 ∧ Dq (del H9 F) (.ref R) (.list row) ∧ RowD row ∧ row.length ≤ 6) ?_ ?_
    rotate_left
    · intro M hM
      have skip : ∀ H9, Ex H8 H9 → M [some (.ref a), some (.ref sc), some (.int (f : Nat)), some (.int (m : Nat)), some (.bl wild), some (.ref Nm), some sv', some (.ref F), some (.int (i : Nat)), some (.int cell), some (.ref sp), some (.ref R), w12, w13, none, none, none, none] H9 := fun H9 e9 =>
        hM _ _ ⟨R, row, w13, rfl, e9, dR.mono (ex_del2 e9) _, rR, by omega⟩
      walk_at "e"
      cases wild with
      | false =>
        walk_at "e"
        exact skip _ (Ex.refl _)
      | true =>
        walk_at "e"
        refine ⟨cell, 7, 12, rfl, by decide, fun r H9 r0 r1 e9 => ?_⟩
        walk_at "e"
        by_cases hr0 : r = 0
        · rw [if_pos hr0]
          have hF8 := e8 _ _ hF5
          have hF9 := e9 _ _ hF8
          have hNm9 := e9 _ _ (e8 _ _ hNm5)
          obtain ⟨p0, hp0⟩ : ∃ p, g.pots[0]? = some p := ⟨_, List.getElem?_eq_getElem (by have := ok.n1; omega)⟩
          have hn0 := ok.nm p0 (List.mem_of_getElem? hp0)
          have at0 : atI (g.pots.map fun p => V.str p.name) 0 = some (.str p0.name) := at_nat (k := 0) (by rw [List.getElem?_map, hp0]; rfl)
          have new : ∀ {H H' : Hp} {p : Addr}, H F = some (.lst vs) → H p = none → Ex H H' → p ≠ F ∧ H' F = some (.lst vs) := fun h1 h2 e => ⟨fun q => (by rw [q, h1] at h2; cases h2), e _ _ h1⟩
          refine s_ixL hNm9 at0 ?_
          refine s_nwG (by show 1 ≤ 100000; decide) fun a1 G1 ha1 f1 g1 => ?_
          obtain ⟨m1, hF1⟩ := new hF9 ha1 f1
          walk_at "e"
          refine s_nwG (by show 1 ≤ 100000; decide) fun a2 G2 ha2 f2 g2 => ?_
          obtain ⟨m2, hF2⟩ := new hF1 ha2 f2
          walk_at "e"
          have hNmG2 := f2 _ _ (f1 _ _ hNm9)
          refine s_ixL hNmG2 at0 ?_
          walk_at "e"
          refine s_ixL hNmG2 at0 ?_
          refine s_nwG (by show 3 ≤ 100000; decide) fun a3 G3 ha3 f3 g3 => ?_
          obtain ⟨m3, hF3⟩ := new hF2 ha3 f3
          walk_at "e"
          refine s_nwG (by show 1 ≤ 100000; decide) fun a4 G4 ha4 f4 g4 => ?_
          obtain ⟨m4, hF4⟩ := new hF3 ha4 f4
          walk_at "e"
          refine s_nwG (by show 1 ≤ 100000; decide) fun a5 G5 ha5 f5 g5 => ?_
          obtain ⟨m5, hF5'⟩ := new hF4 ha5 f5
          walk_at "e"
          refine s_nwG (by show 1 ≤ 100000; decide) fun a6 G6 ha6 f6 g6 => ?_
          obtain ⟨m6, hF6⟩ := new hF5' ha6 f6
          walk_at "e"
          refine s_nwG (by show 1 ≤ 100000; decide) fun a7 G7 ha7 f7 g7 => ?_
          obtain ⟨m7, hF7⟩ := new hF6 ha7 f7
          walk_at "e"
          refine s_nwG (by show 1 ≤ 100000; decide) fun a8 G8 ha8 f8 g8 => ?_
          obtain ⟨m8, hF8'⟩ := new hF7 ha8 f8
          walk_at "e"
          refine s_nwG (by show 1 ≤ 100000; decide) fun a9 G9 ha9 f9 g9 => ?_
          obtain ⟨m9, hF9'⟩ := new hF8' ha9 f9
          refine s_nwG (by show 8 ≤ 100000; decide) fun o G10 ho f10 g10 => ?_
          obtain ⟨mo, hF10⟩ := new hF9' ho f10
          walk_at "e"
          refine ⟨cell, 4, 8, rfl, by decide, fun r2 G11 s0 s1 f11 => ?_⟩
          have k10 : Ex G10 G11 := f11
          have k9 := f10.trans k10
          have k8 := f9.trans k9
          have k7 := f8.trans k8
          have k6 := f7.trans k7
          have k5 := f6.trans k6
          have k4 := f5.trans k5
          have k3 := f4.trans k4
          have k2 := f3.trans k3
          have k1 := f2.trans k2
          have e811 : Ex H8 G11 := (e9.trans f1).trans k1
          have put : ∀ {p : Addr} {xs : List V} {ds : List PyData}, p ≠ F → G11 p = some (.lst xs) → DqAll (del G11 F) xs ds → Dq (del G11 F) (.ref p) (.list ds) := fun h1 h2 h3 => .lst (by rw [del_ne h1]; exact h2) h3
          have nz : NameD (.str "zz") := .inl ⟨_, by decide +kernel, rfl⟩
          have nn0 : NameD (.str p0.name) := .inl ⟨_, (show ∀ n ∈ five, PyData.strOk n = true by decide +kernel) _ hn0, rfl⟩
          have ne : NameD (.str "") := .inl ⟨_, by decide +kernel, rfl⟩
          have nl : NameD (.str "ivy\n") := .inl ⟨_, by decide +kernel, rfl⟩
          have odd : ∃ (pj : Addr) (dj : List PyData), atI [V.ref a1, V.ref a2, V.ref a3, V.ref a4, V.ref a5, V.ref a7, V.ref a8, V.ref a9] r2 = some (.ref pj) ∧ Dq (del G11 F) (.ref pj) (.list dj) ∧ (∀ d ∈ dj, NameD d) ∧ dj.length ≤ 3 := by
            have h : r2 = 0 ∨ r2 = 1 ∨ r2 = 2 ∨ r2 = 3 ∨ r2 = 4 ∨ r2 = 5 ∨ r2 = 6 ∨ r2 = 7 := by omega
            rcases h with rfl | rfl | rfl | rfl | rfl | rfl | rfl | rfl
            · exact ⟨a1, [.str p0.name], rfl, put m1 (k1 _ _ g1) (.one (.str _)), by simpa using nn0, by simp⟩
            · exact ⟨a2, [.str "zz"], rfl, put m2 (k2 _ _ g2) (.one (.str _)), by simpa using nz, by simp⟩
            · exact ⟨a3, [.str p0.name, .str p0.name, .str "zz"], rfl, put m3 (k3 _ _ g3) (.cons (.str _) (.cons (.str _) (.one (.str _)))), by simp [nn0, nz], by simp⟩
            · exact ⟨a4, [.none], rfl, put m4 (k4 _ _ g4) (.one .non), by simpa using .inr (.inl rfl), by simp⟩
            · exact ⟨a5, [.int 3], rfl, put m5 (k5 _ _ g5) (.one (.int _)), by simpa using .inr (.inr (.inl rfl)), by simp⟩
            · exact ⟨a7, [.list [.str "ivy"]], rfl, put m7 (k7 _ _ g7) (.one (put m6 (k6 _ _ g6) (.one (.str _)))), by simpa using .inr (.inr (.inr rfl)), by simp⟩
            · exact ⟨a8, [.str ""], rfl, put m8 (k8 _ _ g8) (.one (.str _)), by simpa using ne, by simp⟩
            · exact ⟨a9, [.str "ivy\n"], rfl, put m9 (k9 _ _ g9) (.one (.str _)), by simpa using nl, by simp⟩
          obtain ⟨pj, dj, hat, hdj, hndj, hlj⟩ := odd
          refine s_ixL (k10 _ _ g10) hat ?_
          have dR11 := dR.mono (ex_del2 e811) _
          cases dR11 with
          | lst hR hRs =>
          cases hdj with
          | lst hP hPs =>
          rename_i rvs pvs
          have hrl := hRs.len
          have hpl := hPs.len
          refine s_cat (ex_del _ _ hR) (ex_del _ _ hP) (by omega) fun R2 hR2 => ?_
          have hF11 := k10 _ _ hF10
          have nR2 : R2 ≠ F := fun q => by rw [q, hF11] at hR2; cases hR2
          have eN : Ex (del G11 F) (del (upd G11 R2 (.lst (rvs ++ pvs))) F) := ex_del2 (Ex.new hR2)
          walk_at "e"
          refine hM _ _ ⟨R2, row ++ dj, _, rfl, e811.trans (Ex.new hR2), .lst (by rw [del_ne nR2, upd_same]) ((hRs.mono eN _).app (hPs.mono eN _)), ⟨by rw [List.length_append]; omega, fun d hd => ?_⟩, by rw [List.length_append]; omega⟩
          rcases List.mem_append.mp hd with q | q
          · exact rR.2 d q
          · exact hndj d q
        · rw [if_neg hr0]
          exact skip _ e9
    rintro σ H9 ⟨R, row, w13', rfl, e9, dR, rR, lR⟩
    have hF9 := e9 _ _ (e8 _ _ hF5)
    have e59 := e8.trans e9
    have e49 : Ex H4 H9 := e5.trans e59
    have fin : ∀ (R : Addr) (row : List PyData) (H10 : Hp), Ex H9 H10 → Dq (del H10 F) (.ref R) (.list row) → RowD row → ∀ w8 w9 w10 w11 w12 w13, N [some (.ref a), some (.ref sc), some (.int (f : Nat)), some (.int (m : Nat)), some (.bl wild), some (.ref Nm), some sv', some (.ref F), w8, w9, w10, w11, w12, w13, none, none, none, none] (upd H10 F (.lst (vs ++ [V.ref R]))) := fun R row H10 e10 hd hr w8 w9 w10 w11 w12 w13 => by
      refine hN _ _ ⟨sv', st', vs ++ [.ref R], rows ++ [row], _, _, _, _, _, _, rfl, ?_, upd_same, ?_, ?_, by simp [hrl], ?_, hs8⟩
      · rw [del_upd]
        exact e4.trans (ex_del2 (e49.trans e10))
      · rw [del_upd, List.map_append]
        exact (hdq.mono (ex_del2 (e49.trans e10)) _).app (.one hd)
      · intro r hr'
        rcases List.mem_append.mp hr' with q | q
        · exact hrd r q
        · have : r = row := by simpa using q
          rw [this]
          exact hr
      · rw [del_upd]
        exact hst8.mono (ex_del2 (e9.trans e10))
    have hvl : vs.length = i := by rw [hdq.len, List.length_map, hrl]
    walk_at "e"
    refine s_bm hF9 ?_
    refine ⟨by omega, ?_⟩
    by_cases hc3 : cell % 3 = 0
    · rw [if_pos hc3]
      cases dR with
      | lst hR hRs =>
      rename_i rvs
      refine s_rev (ex_del _ _ hR) fun R2 hR2 => ?_
      have nR2 : R2 ≠ F := fun q => by rw [q, hF9] at hR2; cases hR2
      have eN := Ex.new (o := .lst rvs.reverse) hR2
      refine s_apq (eN _ _ hF9) (by omega) ?_
      refine fin R2 row.reverse _ eN (.lst (by rw [del_ne nR2, upd_same]) (hRs.rev.mono (ex_del2 eN) _)) ⟨by rw [List.length_reverse]; exact rR.1, fun d hd => rR.2 d (List.mem_reverse.mp hd)⟩ _ _ _ _ _ _
    · rw [if_neg hc3]
      refine s_apq hF9 (by omega) ?_
      exact fin R row H9 (Ex.refl _) dR rR _ _ _ _ _ _
  · rintro σ H4 ⟨sv, st, vs, rows, w8, w9, w10, w11, w12, w13, rfl, e4, hH, hdq, hrd, hrl, hst', hs⟩
    walk_at "e"
    exact k F rows H4 (e03.trans (e4.trans ex_del)) (.lst hH (hdq.mono ex_del _)) ⟨by omega, hrd⟩ (by omega)
theorem ok_rows_L (T : Txt K mg) : Df P w K mg base CX0 3 "_law_rows" ["_law_spec_here", "_law_script", "_law_first", "_law_many", "_law_wild"] [] (spRowsL K) := let ⟨fd, F⟩ := T.d_rows_L; mk_df F (fn_rows_L T F) T.g_rows_L (F.bindsN fun _ _ _ _ _ _ us hl => match us, hl with | [_, _, _, _, _], _ => rfl)
end
end Tk

set_option maxHeartbeats 4000000
/-! The table of a garden. -/
namespace Tk
open PySem PySem.Spec PyProof.Rows L2 He Evl
local macro_rules | `(tactic| walk_at "e") => `(tactic| (try simp only [a_seq, a_var0, a_varS, a_c, a_asg, a_name, a_set0, a_setS, a_ret, a_retN, a_ifS, a_drop, a_next, a_op, a_un, a_I0, a_I, a_U, a_bT, a_test, a_B, a_and, a_or, a_not, a_andV, a_orV, a_notV, a_if, a_isN, a_notN, a_nil, a_cons, a_CB, a_lst, a_tup, a_dget, a_din, a_dnotin, a_dput, a_newK, a_revL, a_getN, a_putN, a_newN, a_forL, a_forT, a_forR, a_lcL, a_lcR, a_yes, a_w0, a_w1, cx_K, cx_P, cx_w, a_eqI, a_neI, a_eqS, a_neS, a_call, a_callS, a_clsFn, a_meth, a_make, a_fld, a_fldS, a_BM, a_BM0, a_sl, a_noP, a_part, a_intP, a_gTup, a_gNil, a_gCons, a_gSub, a_ipI, a_ipMul, a_aug, a_augS, a_chain, m_and, m_or, a_xp, cxh_K, a_veI, a_ost, a_mkK, a_nn, not_false_eq_true, not_true_eq_false, Option.map_some, Option.map_none, Option.isSome_some, Option.isSome_none, List.map_cons, List.map_nil, true_and, and_true, true_or, or_true, false_and, and_false, false_or, or_false, if_true, if_false, Bool.false_eq_true, decide_eq_true_eq, Bool.not_eq_true, Bool.not_true, Bool.not_false, decide_eq_false_iff_not, Bool.not_eq_eq_eq_not, reduceCtorEq, Bool.true_eq_false, List.cons_append, List.nil_append, List.append_nil]))
local macro_rules | `(tactic| walk_at "1") => `(tactic| ((try simp only [a_var0, a_varS, a_c, a_asg, a_name, a_set0, a_setS, a_ret, a_retN, a_ifS, a_drop, a_next, a_op, a_un, a_I0, a_I, a_U, a_bT, a_test, a_B, a_and, a_or, a_not, a_andV, a_orV, a_notV, a_if, a_isN, a_notN, a_nil, a_cons, a_CB, a_lst, a_tup, a_dget, a_din, a_dnotin, a_dput, a_newK, a_revL, a_getN, a_putN, a_newN, a_forL, a_forT, a_forR, a_lcL, a_lcR, a_yes, a_w0, a_w1, cx_K, cx_P, cx_w, a_eqI, a_neI, a_eqS, a_neS, a_call, a_callS, a_clsFn, a_meth, a_make, a_fld, a_fldS, a_BM, a_BM0, a_sl, a_noP, a_part, a_intP, a_gTup, a_gNil, a_gCons, a_gSub, a_ipI, a_ipMul, a_aug, a_augS, a_chain, m_and, m_or, a_xp, cxh_K, a_veI, a_ost, a_mkK, a_nn, not_false_eq_true, not_true_eq_false, Option.map_some, Option.map_none, Option.isSome_some, Option.isSome_none, List.map_cons, List.map_nil, true_and, and_true, true_or, or_true, false_and, and_false, false_or, or_false, if_true, if_false, Bool.false_eq_true, decide_eq_true_eq, Bool.not_eq_true, Bool.not_true, Bool.not_false, decide_eq_false_iff_not, Bool.not_eq_eq_eq_not, reduceCtorEq, Bool.true_eq_false, List.cons_append, List.nil_append, List.append_nil]); rw [a_seq]; (try simp only [a_var0, a_varS, a_c, a_asg, a_name, a_set0, a_setS, a_ret, a_retN, a_ifS, a_drop, a_next, a_op, a_un, a_I0, a_I, a_U, a_bT, a_test, a_B, a_and, a_or, a_not, a_andV, a_orV, a_notV, a_if, a_isN, a_notN, a_nil, a_cons, a_CB, a_lst, a_tup, a_dget, a_din, a_dnotin, a_dput, a_newK, a_revL, a_getN, a_putN, a_newN, a_forL, a_forT, a_forR, a_lcL, a_lcR, a_yes, a_w0, a_w1, cx_K, cx_P, cx_w, a_eqI, a_neI, a_eqS, a_neS, a_call, a_callS, a_clsFn, a_meth, a_make, a_fld, a_fldS, a_BM, a_BM0, a_sl, a_noP, a_part, a_intP, a_gTup, a_gNil, a_gCons, a_gSub, a_ipI, a_ipMul, a_aug, a_augS, a_chain, m_and, m_or, a_xp, cxh_K, a_veI, a_ost, a_mkK, a_nn, not_false_eq_true, not_true_eq_false, Option.map_some, Option.map_none, Option.isSome_some, Option.isSome_none, List.map_cons, List.map_nil, true_and, and_true, true_or, or_true, false_and, and_false, false_or, or_false, if_true, if_false, Bool.false_eq_true, decide_eq_true_eq, Bool.not_eq_true, Bool.not_true, Bool.not_false, decide_eq_false_iff_not, Bool.not_eq_eq_eq_not, reduceCtorEq, Bool.true_eq_false, List.cons_append, List.nil_append, List.append_nil])))
local macro_rules | `(tactic| walk_at "0") => `(tactic| (try simp only [a_var0, a_varS, a_c, a_asg, a_name, a_set0, a_setS, a_ret, a_retN, a_ifS, a_drop, a_next, a_op, a_un, a_I0, a_I, a_U, a_bT, a_test, a_B, a_and, a_or, a_not, a_andV, a_orV, a_notV, a_if, a_isN, a_notN, a_nil, a_cons, a_CB, a_lst, a_tup, a_dget, a_din, a_dnotin, a_dput, a_newK, a_revL, a_getN, a_putN, a_newN, a_forL, a_forT, a_forR, a_lcL, a_lcR, a_yes, a_w0, a_w1, cx_K, cx_P, cx_w, a_eqI, a_neI, a_eqS, a_neS, a_call, a_callS, a_clsFn, a_meth, a_make, a_fld, a_fldS, a_BM, a_BM0, a_sl, a_noP, a_part, a_intP, a_gTup, a_gNil, a_gCons, a_gSub, a_ipI, a_ipMul, a_aug, a_augS, a_chain, m_and, m_or, a_xp, cxh_K, a_veI, a_ost, a_mkK, a_nn, not_false_eq_true, not_true_eq_false, Option.map_some, Option.map_none, Option.isSome_some, Option.isSome_none, List.map_cons, List.map_nil, true_and, and_true, true_or, or_true, false_and, and_false, false_or, or_false, if_true, if_false, Bool.false_eq_true, decide_eq_true_eq, Bool.not_eq_true, Bool.not_true, Bool.not_false, decide_eq_false_iff_not, Bool.not_eq_eq_eq_not, reduceCtorEq, Bool.true_eq_false, List.cons_append, List.nil_append, List.append_nil]))
section
variable {P : Program} {w : World} {K : PySem.W.Frag} {mg : Str → Option Value} {base : Heap}
def AhIn (H : Hp) (n : Nat) (us : List V) : Prop := ∀ u ∈ us, ∃ (q : Addr) (xs : List Nat), u = .ref q ∧ H q = some (.lst (xs.map fun (k : Nat) => V.int k)) ∧ (∀ x ∈ xs, x < n) ∧ xs.length ≤ 8
theorem AhIn.mono {H H' : Hp} {n : Nat} {us : List V} (e : Ex H H') (h : AhIn H n us) : AhIn H' n us := fun u hu => let ⟨q, xs, h1, h2, h3, h4⟩ := h u hu; ⟨q, xs, h1, e _ _ h2, h3, h4⟩
def spAhead (K : PySem.W.Frag) : Sp := fun vs H Q _ => ∃ (a l d : Addr) (ps : List V) (g : Gd) (n : Nat), vs = [.ref a] ∧ GdIn K H a l d ps g ∧ g.Ok ∧ sizeI g = (n : Nat) ∧
  ∀ (p : Addr) (us : List V) (H' : Hp), Ex H H' → H' p = some (.lst us) → us.length = n → AhIn H' n us → Q (.ref p) H'
theorem sc_ahead_of : FnScope ["garden", "found", "number", "pair"] ["garden"] (defScope s_ahead_of) := ⟨rfl, rfl, rfl, by decide +kernel, rfl, by decide +kernel, by decide +kernel⟩
theorem st_ahead_of (p0 : V) : start ["garden", "found", "number", "pair"] [p0] = [some p0, none, none, none] := rfl
theorem fn_ahead_of (T : Txt K mg) {fd : FuncData} (F : FunD K "ahead_of" "ahead_of" (defArgs s_ahead_of) (defBody s_ahead_of) (defScope s_ahead_of) [] [] (ga K "ahead_of") fd) : FnOk P w K mg base CX0 5 (ga K "ahead_of") fd ["garden"] (spAhead K) := by
  refine F.ok (CX := CX0) (k := 4) sc_ahead_of (fun vs H Q E h => ?L) (fun cdv A outer s H vs Q E hr h => ?B)
  case L => first | (obtain ⟨_, rfl, _⟩ := h; rfl) | (obtain ⟨_, _, rfl, _⟩ := h; rfl) | (obtain ⟨_, _, _, rfl, _⟩ := h; rfl) | (obtain ⟨_, _, _, _, rfl, _⟩ := h; rfl) | (obtain ⟨_, _, _, _, _, rfl, _⟩ := h; rfl) | (obtain ⟨_, _, _, _, _, _, rfl, _⟩ := h; rfl) | (obtain ⟨_, _, _, _, _, _, _, rfl, _⟩ := h; rfl) | (obtain ⟨_, _, _, _, _, _, _, _, rfl, _⟩ := h; rfl) | (obtain ⟨_, _, _, _, _, _, _, _, _, rfl, _⟩ := h; rfl) | (obtain ⟨_, _, _, _, _, _, _, _, _, _, rfl, _⟩ := h; rfl) | (obtain ⟨_, _, _, _, _, _, _, _, _, _, _, rfl, _⟩ := h; rfl) | (obtain ⟨_, _, _, _, _, _, _, _, _, _, _, _, rfl, _⟩ := h; rfl) | (obtain ⟨_, _, _, _, _, _, _, _, _, _, _, _, _, rfl, _⟩ := h; rfl)
  case B =>
  refine ⟨_, PSs.nox ((pss_cons (ps_set (i := 1) sc_ahead_of.nd rfl (Or.inl rfl) (pe_lst pa_nil))
      (pss_cons (ps_for PassesOwn.never rfl (pi_range1 rfl T.f_range (pa_cons (pe_mt0 (pv 0) (ok_Garden_size T) (hr.mono (by decide)) pass0) pa_nil)) (pg_name (i := 2) sc_ahead_of.nd rfl (Or.inl rfl))
      (pss_one (ps_expr (pe_bm PySem.F.plainAttrs_list PySem.F.slot_list_append PySem.F.type_list_append mt_append (pv 1) (pa_cons (pe_lc (own := [("pair", 3)]) (g := (gName 3)) (tt := tYes) (te := (tMeth _ "number" _ [] _ (tVar 0) (tCons (tOp (rIxT K) (tVar 3) (tC (.int 1))) tNil))) rfl sc_ahead_of.nd (pi_list (pe_df (ok_choices T) (hr.mono (by decide)) rfl pass0 (pa_cons (pv 0) (pa_cons (pe_mt (pv 0) (ok_Garden_state T) (hr.mono (by decide)) pass0 (pa_cons (pv 2) pa_nil)) pa_nil)))) (blkOk_by (own := [("pair", 3)]) (N := ["garden", "found", "number", "pair"]) (sc := defScope s_ahead_of) (by decide +kernel)) (fun _ _ _ _ _ => (pg_name (i := 3) sc_ahead_of.nd rfl (Or.inl rfl))) (fun _ _ _ _ _ => pts_nil) (fun _ _ _ _ _ => (pe_mt (pv 0) (ok_Garden_number T) (hr.mono (by decide)) pass0 (pa_cons (pe_ix ix_tup (pv 3) pe_int (fun _ _ => rfl)) pa_nil)))) pa_nil)))))
      (pss_one (ps_ret (pv 1)))))), ?_⟩
  obtain ⟨a, l, d, ps, g, n, rfl, hG, ok, hn, k⟩ := h
  have hsz := ok.size
  rw [st_ahead_of]
  walk_at "1"
  refine s_nil fun F hF => ?_
  have eF : Ex H (upd H F (.lst [])) := Ex.new hF
  walk_at "1"
  refine g_rcv (hG.mono eF) (Ex.refl _) (by decide +kernel) (by decide +kernel) (by decide +kernel) (by decide +kernel) (by decide +kernel) ?_
  refine ⟨a, l, d, ps, g, rfl, hG.mono eF, ok.gap, ?_⟩
  walk_at "0"
  rw [hn]
  refine s_forR (by omega) (fun i σ H1 => ∃ (us : List V) (v2 : Option V), σ = [some (.ref a), some (.ref F), v2, none] ∧ Ex H (del H1 F) ∧ H1 F = some (.lst us) ∧ us.length = i ∧ AhIn (del H1 F) n us)
    ⟨[], none, rfl, ex_into eF hF, upd_same, rfl, fun u hu => (by cases hu)⟩ ?_ ?_
  · rintro N i σ H1 hi ⟨us, v2, rfl, e, hH, hl, hA⟩ hN
    have e1 : Ex H H1 := e.trans ex_del
    walk_at "e"
    refine s_bm hH ?_
    walk_at "e"
    refine g_rcv (hG.mono e1) (Ex.refl _) (by decide +kernel) (by decide +kernel) (by decide +kernel) (by decide +kernel) (by decide +kernel) ?_
    refine ⟨a, l, d, ps, g, (i : Nat), rfl, hG.mono e1, ok, ⟨by omega, by omega⟩, fun v st H2 hst hs e2 => ?_⟩
    walk_at "e"
    have e02 := e1.trans e2
    refine ⟨a, l, d, ps, g, v, st, rfl, hG.mono e02, ok, hst, hs, fun p cs H3 e3 hp hcl hch => ?_⟩
    walk_at "e"
    have e03 := e02.trans e3
    refine s_lcL hp (fun j acc H4 => ∃ xs : List Nat, acc = xs.map (fun (k : Nat) => V.int k) ∧ (∀ x ∈ xs, x < n) ∧ xs.length ≤ j) ⟨[], rfl, fun x hx => (by cases hx), Nat.le_refl _⟩ ?_ ?_
    · rintro j x acc D H4 hD hx y1 y2 e4 ⟨xs, rfl, hb, hxl⟩
      have e34 : Ex H3 H4 := e4.trans ex_del
      obtain ⟨t, c, sv, st2, rfl, ht, hc, hsv, hok⟩ := (hch.mono e34) x (List.mem_of_getElem? hx)
      have hjl := (List.getElem?_eq_some_iff.mp hx).1
      walk_at "e"
      refine g_rcv (hG.mono (e03.trans e34)) (Ex.refl _) (by decide +kernel) (by decide +kernel) (by decide +kernel) (by decide +kernel) (by decide +kernel) ?_
      refine s_ixT ht (v := sv) rfl ?_
      walk_at "e"
      refine ⟨a, l, d, ps, g, sv, st2, rfl, hG.mono (e03.trans e34), ok, hsv, hok, ?_⟩
      have hb2 := numI_bd ok hok
      obtain ⟨q, hq⟩ : ∃ q : Nat, numI g st2 = (q : Nat) := ⟨(numI g st2).toNat, by omega⟩
      rw [hq]
      exact lc_y (by omega) y1 y2 e4 (Ex.refl _) ⟨xs ++ [q], by rw [List.map_append]; rfl, fun x hx => by
        rcases List.mem_append.mp hx with z | z
        · exact hb x z
        · have : x = q := by simpa using z
          omega, by simp; omega⟩
    · rintro R H4 acc hR y1 y2 e4 ⟨xs, rfl, hb, hxl⟩
      have e34 : Ex H3 H4 := e4.trans ex_del
      have e14 : Ex H1 H4 := (e2.trans e3).trans e34
      have hF4 := e14 _ _ hH
      have nRF : R ≠ F := fun q => by rw [q, ((e2.trans e3) _ _ hH)] at hR; cases hR
      walk_at "e"
      refine s_apq hF4 (by omega) (hN _ _ ⟨us ++ [.ref R], _, rfl, ?_, upd_same, by simp [hl], ?_⟩)
      · rw [del_upd]
        exact e.trans (ex_del2 e14)
      · rw [del_upd]
        intro u hu
        rcases List.mem_append.mp hu with z | z
        · exact (hA.mono (ex_del2 e14)) u z
        · exact ⟨R, xs, by simpa using z, by rw [del_ne nRF]; exact y1, hb, by omega⟩
  · rintro σ H1 ⟨us, v2, rfl, e, hH, hl, hA⟩
    walk_at "e"
    exact k F us H1 (e.trans ex_del) hH hl (hA.mono ex_del)
theorem ok_ahead_of (T : Txt K mg) : Df P w K mg base CX0 5 "ahead_of" ["garden"] [] (spAhead K) := let ⟨fd, F⟩ := T.d_ahead_of; mk_df F (fn_ahead_of T F) T.g_ahead_of (F.bindsN fun _ _ _ _ _ _ us hl => match us, hl with | [_], _ => rfl)
def posN (ls : List Int) : Nat := ls.countP fun x => decide (0 < x)
theorem pos_set : ∀ {ls : List Int} {j : Nat} {x : Int}, ls[j]? = some x → posN (ls.set j (x - 1)) ≤ posN ls ∧ (x - 1 = 0 → posN (ls.set j (x - 1)) + 1 ≤ posN ls)
  | [], _, _, h => by simp at h
  | y :: ls, 0, x, h => by
    cases (show some y = some x from h)
    show posN ((y - 1) :: ls) ≤ posN (y :: ls) ∧ _
    unfold posN
    rw [List.countP_cons, List.countP_cons]
    by_cases h1 : 0 < y
    · rw [decide_eq_true h1]
      refine ⟨?_, fun h2 => ?_⟩
      · split <;> simp
      · have : ¬ 0 < y - 1 := by omega
        rw [List.set_cons_zero, List.countP_cons, decide_eq_false this]
        simp
    · have : ¬ 0 < y - 1 := by omega
      rw [decide_eq_false h1, decide_eq_false this]
      exact ⟨Nat.le_refl _, fun h2 => by omega⟩
  | y :: ls, j + 1, x, h => by
    obtain ⟨h1, h2⟩ := pos_set (ls := ls) (j := j) (x := x) h
    rw [List.set_cons_succ]
    unfold posN at h1 h2 ⊢
    rw [List.countP_cons, List.countP_cons]
    exact ⟨by omega, fun q => by have := h2 q; omega⟩
def OkD (ds : List V) : Prop := ∀ d ∈ ds, d = .non ∨ ∃ i : Int, d = .int i
def spTable (K : PySem.W.Frag) : Sp := fun vs H Q _ => ∃ (a l d : Addr) (ps : List V) (g : Gd) (n : Nat), vs = [.ref a] ∧ GdIn K H a l d ps g ∧ g.Ok ∧ sizeI g = (n : Nat) ∧
  ∀ (p : Addr) (ds : List V) (H' : Hp), Ex H H' → H' p = some (.lst ds) → ds.length = n → OkD ds → Q (.ref p) H'
theorem sc_table : FnScope ["garden", "ahead", "left", "from_where", "number", "other", "days", "border", "count", "more", "row"] ["garden"] (defScope s_table) := ⟨rfl, rfl, rfl, by decide +kernel, rfl, by decide +kernel, by decide +kernel⟩
theorem st_table (p0 : V) : start ["garden", "ahead", "left", "from_where", "number", "other", "days", "border", "count", "more", "row"] [p0] = [some p0, none, none, none, none, none, none, none, none, none, none] := rfl
theorem fn_table (T : Txt K mg) {fd : FuncData} (F : FunD K "table" "table" (defArgs s_table) (defBody s_table) (defScope s_table) [] [] (ga K "table") fd) : FnOk P w K mg base CX0 6 (ga K "table") fd ["garden"] (spTable K) := by
  refine F.ok (CX := CX0) (k := 5) sc_table (fun vs H Q E h => ?L) (fun cdv A outer s H vs Q E hr h => ?B)
  case L => first | (obtain ⟨_, rfl, _⟩ := h; rfl) | (obtain ⟨_, _, rfl, _⟩ := h; rfl) | (obtain ⟨_, _, _, rfl, _⟩ := h; rfl) | (obtain ⟨_, _, _, _, rfl, _⟩ := h; rfl) | (obtain ⟨_, _, _, _, _, rfl, _⟩ := h; rfl) | (obtain ⟨_, _, _, _, _, _, rfl, _⟩ := h; rfl) | (obtain ⟨_, _, _, _, _, _, _, rfl, _⟩ := h; rfl) | (obtain ⟨_, _, _, _, _, _, _, _, rfl, _⟩ := h; rfl) | (obtain ⟨_, _, _, _, _, _, _, _, _, rfl, _⟩ := h; rfl) | (obtain ⟨_, _, _, _, _, _, _, _, _, _, rfl, _⟩ := h; rfl) | (obtain ⟨_, _, _, _, _, _, _, _, _, _, _, rfl, _⟩ := h; rfl) | (obtain ⟨_, _, _, _, _, _, _, _, _, _, _, _, rfl, _⟩ := h; rfl) | (obtain ⟨_, _, _, _, _, _, _, _, _, _, _, _, _, rfl, _⟩ := h; rfl)
  case B =>
  refine ⟨_, PSs.nox ((pss_cons (ps_set (i := 1) sc_table.nd rfl (Or.inl rfl) (pe_df (ok_ahead_of T) (hr.mono (by decide)) rfl pass0 (pa_cons (pv 0) pa_nil)))
      (pss_cons (ps_set (i := 2) sc_table.nd rfl (Or.inr rfl) (pe_lc (own := [("row", 10)]) (g := (gName 10)) (tt := tYes) (te := (tCB (rLenQ K) (tCons (tVar 10) tNil))) rfl sc_table.nd (pi_list (pv 1)) (blkOk_by (own := [("row", 10)]) (N := ["garden", "ahead", "left", "from_where", "number", "other", "days", "border", "count", "more", "row"]) (sc := defScope s_table) (by decide +kernel)) (fun _ _ _ _ _ => (pg_name (i := 10) sc_table.nd rfl (Or.inl rfl))) (fun _ _ _ _ _ => pts_nil) (fun _ _ _ _ _ => (pe_callB call_lenQ (by rfl) T.f_len (by decide +kernel) (pa_cons (pv 10) pa_nil)))))
      (pss_cons (ps_setLc (i := 3) (own := [("row", 10)]) (g := (gName 10)) (tt := tYes) (te := (tLst tNil)) rfl sc_table.nd rfl rfl (sw_true rfl rfl rfl (by decide +kernel)) (pi_list (pv 1)) (blkOk_by (own := [("row", 10)]) (N := ["garden", "ahead", "left", "from_where", "number", "other", "days", "border", "count", "more", "row"]) (sc := defScope s_table) (by decide +kernel)) (fun _ _ _ _ _ => (pg_name (i := 10) sc_table.nd rfl (Or.inl rfl))) (fun _ _ _ _ _ => pts_nil) (fun _ _ _ _ _ => (pe_lst pa_nil)))
      (pss_cons (ps_for PassesOwn.never rfl (pi_range1 rfl T.f_range (pa_cons (pe_callB call_lenQ (by rfl) T.f_len (by decide +kernel) (pa_cons (pv 1) pa_nil)) pa_nil)) (pg_name (i := 4) sc_table.nd rfl (Or.inl rfl))
      (pss_one (ps_for PassesOwn.never rfl (pi_list (pe_ix ix_list (pv 1) (pv 4) (fun _ _ => rfl))) (pg_name (i := 5) sc_table.nd rfl (Or.inl rfl))
      (pss_one (ps_expr (pe_bm PySem.F.plainAttrs_list PySem.F.slot_list_append PySem.F.type_list_append mt_append (pe_ix ix_list (pv 3) (pv 5) (fun _ _ => rfl)) (pa_cons (pv 4) pa_nil)))))))
      (pss_cons (ps_set (i := 6) sc_table.nd rfl (Or.inl rfl) (pe_op op_rep (pe_lst (pa_cons pe_non pa_nil)) (pe_callB call_lenQ (by rfl) T.f_len (by decide +kernel) (pa_cons (pv 1) pa_nil))))
      (pss_cons (ps_setLc (i := 7) (own := [("number", 4)]) (g := (gName 4)) (tt := (tTest (tOp _ (tOp (rIxL K) (tVar 2) (tVar 4)) (tC (.int 0))))) (te := (tVar 4)) rfl sc_table.nd rfl rfl (sw_true rfl rfl rfl (by decide +kernel)) (pi_range1 rfl T.f_range (pa_cons (pe_callB call_lenQ (by rfl) T.f_len (by decide +kernel) (pa_cons (pv 1) pa_nil)) pa_nil)) (blkOk_by (own := [("number", 4)]) (N := ["garden", "ahead", "left", "from_where", "number", "other", "days", "border", "count", "more", "row"]) (sc := defScope s_table) (by decide +kernel)) (fun _ _ _ _ _ => (pg_name (i := 4) sc_table.nd rfl (Or.inl rfl))) (fun _ _ _ _ _ => (pts_one (pt_cmpR op_eq (pe_ix ix_list (pv 2) (pv 4) (fun _ _ => rfl)) pe_int (nomark _)))) (fun _ _ _ _ _ => (pv 4)))
      (pss_cons (ps_set (i := 8) sc_table.nd rfl (Or.inl rfl) pe_int)
      (pss_cons (ps_while PassesOwn.never (pt_cmpR (op_neD (hu_64 hr)) (pv 7) (pe_lst pa_nil) (nomark _))
      (pss_cons (ps_set (i := 9) sc_table.nd rfl (Or.inl rfl) (pe_lst pa_nil))
      (pss_cons (ps_for PassesOwn.never rfl (pi_list (pv 7)) (pg_name (i := 4) sc_table.nd rfl (Or.inl rfl))
      (pss_cons (ps_asg (pv 8) (pg_sub (pv 6) (pv 4) set_list))
      (pss_one (ps_for PassesOwn.never rfl (pi_list (pe_ix ix_list (pv 3) (pv 4) (fun _ _ => rfl))) (pg_name (i := 5) sc_table.nd rfl (Or.inl rfl))
      (pss_cons (ps_augS (pv 2) (pv 5) get_list pe_int ip_sub set_list)
      (pss_one (ps_if (pt_cmpR op_eq (pe_ix ix_list (pv 2) (pv 5) (fun _ _ => rfl)) pe_int (nomark _)) (pss_one (ps_expr (pe_bm PySem.F.plainAttrs_list PySem.F.slot_list_append PySem.F.type_list_append mt_append (pv 9) (pa_cons (pv 5) pa_nil))))
      pss_nil)))))))
      (pss_cons (ps_set (i := 7) sc_table.nd rfl (Or.inl rfl) (pv 9))
      (pss_one (ps_aug (i := 8) sc_table.nd rfl (Or.inl rfl) pe_int ip_add))))))
      (pss_one (ps_ret (pv 6)))))))))))), ?_⟩
  obtain ⟨a, l, d, ps, g, n, rfl, hG, ok, hn, k⟩ := h
  have hsz := ok.size
  rw [st_table]
  walk_at "1"
  refine ⟨a, l, d, ps, g, n, rfl, hG, ok, hn, fun A us H1 e1 hA hAl hAin => ?_⟩
  walk_at "1"
  refine s_lcL hA (fun i acc H2 => ∃ ls : List Int, acc = ls.map V.int ∧ ls.length = i) ⟨[], rfl, rfl⟩ ?_ ?_
  · rintro i x acc D H2 hD hx y1 y2 e2 ⟨ls, rfl, hl⟩
    have hi := (List.getElem?_eq_some_iff.mp hx).1
    have e12 : Ex H1 H2 := e2.trans ex_del
    obtain ⟨q, xs, rfl, hq, _, _⟩ := (hAin.mono e12) x (List.mem_of_getElem? hx)
    walk_at "e"
    refine s_lenL hq ?_
    exact lc_y (by omega) y1 y2 e2 (Ex.refl _) ⟨ls ++ [_], by rw [List.map_append]; rfl, by simp [hl]⟩
  rintro L H2 acc hL y1 y2 e2 ⟨ls, rfl, hll⟩
  have e12 : Ex H1 H2 := e2.trans ex_del
  walk_at "1"
  have hA2 := e12 _ _ hA
  refine s_lcL hA2 (fun i acc H3 => ∃ fs : List Addr, acc = fs.map V.ref ∧ fs.length = i ∧ (∀ f ∈ fs, H2 f = none) ∧ ∀ f ∈ fs, H3 f = some (.lst [])) ⟨[], rfl, rfl, fun f hf => (by cases hf), fun f hf => (by cases hf)⟩ ?_ ?_
  · rintro i x acc D H3 hD hx z1 z2 e3 ⟨fs, rfl, hfl, hf1, hf2⟩
    have hi := (List.getElem?_eq_some_iff.mp hx).1
    walk_at "e"
    refine s_nwG (Nat.zero_le _) fun p H4 hp e4 h4 => ?_
    have npD : p ≠ D := fun q => by rw [q, z1] at hp; cases hp
    refine lc_y (by omega) z1 z2 e3 e4 ⟨fs ++ [p], by rw [List.map_append]; rfl, by simp [hfl], fun f hf => ?_, fun f hf => ?_⟩
    · rcases List.mem_append.mp hf with q | q
      · exact hf1 f q
      · have : f = p := by simpa using q
        rw [this]
        exact fresh_back (e3.trans ex_del) hp
    · rcases List.mem_append.mp hf with q | q
      · exact ex_del2 e4 _ _ (hf2 f q)
      · have : f = p := by simpa using q
        rw [this, del_ne npD]
        exact h4
  rintro W H3 acc hW z1 z2 e3 ⟨fs, rfl, hfl, hf1, hf2⟩
  have e23 : Ex H2 H3 := e3.trans ex_del
  have hf3 : ∀ f ∈ fs, H3 f = some (.lst []) := fun f hf => ex_del _ _ (hf2 f hf)
  rw [hAl] at hfl hll
  have hA3 := e23 _ _ hA2
  have hL3 := e23 _ _ y1
  have nWf : W ∉ fs := fun q => by
    have := hf2 W q
    rw [del_same] at this
    cases this
  have oldf : ∀ b o, H2 b = some o → b ∉ fs := fun b o hb q => by rw [hf1 b q] at hb; cases hb
  refine s_cut (fun σ H4 => ∃ v4 v5, σ = [some (.ref a), some (.ref A), some (.ref L), some (.ref W), v4, v5, none, none, none, none, none] ∧ (∀ b o, H3 b = some o → b ∉ fs → H4 b = some o) ∧ ∀ f ∈ fs, ∃ xs : List Nat, H4 f = some (.lst (xs.map fun (k : Nat) => V.int k)) ∧ (∀ x ∈ xs, x < n) ∧ xs.length ≤ 8 * n) ?_ ?_
  rotate_left
  · intro M hM
    walk_at "e"
    refine s_lenL hA3 ?_
    rw [hAl]
    refine s_forR (by omega) (fun i σ H4 => ∃ v4 v5, σ = [some (.ref a), some (.ref A), some (.ref L), some (.ref W), v4, v5, none, none, none, none, none] ∧ (∀ b o, H3 b = some o → b ∉ fs → H4 b = some o) ∧ ∀ f ∈ fs, ∃ xs : List Nat, H4 f = some (.lst (xs.map fun (k : Nat) => V.int k)) ∧ (∀ x ∈ xs, x < n) ∧ xs.length ≤ 8 * i)
      ⟨none, none, rfl, fun b o hb _ => hb, fun f hf => ⟨[], hf3 f hf, fun x hx => (by cases hx), Nat.zero_le _⟩⟩ ?_ ?_
    · rintro N i σ H4 hi ⟨v4, v5, rfl, hfr, hff⟩ hN
      obtain ⟨u, hu⟩ : ∃ u, us[i]? = some u := ⟨_, List.getElem?_eq_getElem (by omega)⟩
      obtain ⟨q, xs, rfl, hq, hxb, hxl⟩ := hAin u (List.mem_of_getElem? hu)
      have hq2 := e12 _ _ hq
      have hqf := oldf _ _ hq2
      walk_at "e"
      refine s_ixL (hfr _ _ hA3 (oldf _ _ hA2)) (at_nat hu) ?_
      walk_at "e"
      refine s_forL (hfr _ _ (e23 _ _ hq2) hqf) (fun j σ H5 => ∃ v5, σ = [some (.ref a), some (.ref A), some (.ref L), some (.ref W), some (.int (i : Nat)), v5, none, none, none, none, none] ∧ (∀ b o, H3 b = some o → b ∉ fs → H5 b = some o) ∧ ∀ f ∈ fs, ∃ xs : List Nat, H5 f = some (.lst (xs.map fun (k : Nat) => V.int k)) ∧ (∀ x ∈ xs, x < n) ∧ xs.length ≤ 8 * i + j)
        ⟨v5, rfl, hfr, hff⟩ (fun j σ H5 _ ⟨_, _, h5, _⟩ => h5 _ _ (e23 _ _ hq2) hqf) ?_ ?_
      · rintro N2 j x σ H5 hx ⟨v5, rfl, hfr5, hff5⟩ hN2
        rw [List.getElem?_map] at hx
        obtain ⟨o, ho, rfl⟩ := Option.map_eq_some_iff.mp hx
        have hon := hxb o (List.mem_of_getElem? ho)
        have hjl := (List.getElem?_eq_some_iff.mp ho).1
        obtain ⟨f, hf⟩ : ∃ f, fs[o]? = some f := ⟨_, List.getElem?_eq_getElem (by omega)⟩
        have hfm := List.mem_of_getElem? hf
        obtain ⟨ys, hys, hyb, hyl⟩ := hff5 f hfm
        walk_at "e"
        refine s_ixL (hfr5 _ _ z1 nWf) (at_nat (v := .ref f) (by rw [List.getElem?_map, hf]; rfl)) ?_
        refine s_app hys (by rw [List.length_map]; omega) (hN2 _ _ ⟨_, rfl, fun b o' hb hbf => ?_, fun f' hf' => ?_⟩)
        · rw [upd_ne (fun q => hbf (by rw [q]; exact hfm))]
          exact hfr5 b o' hb hbf
        · by_cases hff' : f' = f
          · subst hff'
            exact ⟨ys ++ [i], by rw [upd_same, List.map_append]; rfl, fun x hx => by
              rcases List.mem_append.mp hx with z | z
              · exact hyb x z
              · have : x = i := by simpa using z
                omega, by simp; omega⟩
          · obtain ⟨zs, c1, c2, c3⟩ := hff5 f' hf'
            exact ⟨zs, by rw [upd_ne hff']; exact c1, c2, by omega⟩
      · rintro σ H5 ⟨v5, rfl, hfr5, hff5⟩
        rw [List.length_map] at hff5
        exact hN _ _ ⟨_, v5, rfl, hfr5, fun f hf => let ⟨zs, c1, c2, c3⟩ := hff5 f hf; ⟨zs, c1, c2, by omega⟩⟩
    · rintro σ H4 ⟨v4, v5, rfl, hfr, hff⟩
      exact hM _ _ ⟨v4, v5, rfl, hfr, hff⟩
  rintro σ H4 ⟨v4, v5, rfl, hfr4, hff4⟩
  have hA4 := hfr4 _ _ hA3 (oldf _ _ hA2)
  have hL4 := hfr4 _ _ hL3 (oldf _ _ y1)
  have hW4 := hfr4 _ _ z1 nWf
  have e04 : Ex H H4 := fun b o hb => hfr4 b o (e23 _ _ (e12 _ _ (e1 _ _ hb))) (oldf _ _ (e12 _ _ (e1 _ _ hb)))
  have nLf : ∀ f ∈ fs, f ≠ L := fun f hf q => by
    have := hf1 f hf
    rw [q, y1] at this
    cases this
  have nWL : W ≠ L := fun q => by rw [q, y1] at hW; cases hW
  have hL0 : H L = none := fresh_back e1 hL
  walk_at "1"
  refine s_nwG (by show 1 ≤ 100000; decide) fun r1 H5 hr1 e5 h5 => ?_
  refine s_lenL (e5 _ _ hA4) ?_
  rw [hAl]
  refine s_rep h5 (by omega) fun D hD => ?_
  have e6 : Ex H4 (upd H5 D (.lst (List.replicate n V.non))) := e5.trans (Ex.new hD)
  have hD6 : upd H5 D (.lst (List.replicate n V.non)) D = some (.lst (List.replicate n V.non)) := upd_same
  have hD4 : H4 D = none := fresh_back e5 hD
  show tSeq _ _ _ _ (upd H5 D (.lst (List.replicate n V.non)))
  generalize upd H5 D (.lst (List.replicate n V.non)) = H6 at e6 hD6
  have nDL : D ≠ L := fun q => by rw [q, hL4] at hD4; cases hD4
  walk_at "1"
  refine s_lenL (e6 _ _ hA4) ?_
  rw [hAl]
  refine s_lcR (by omega) (fun i acc H7 => ∃ bs : List Nat, acc = bs.map (fun (k : Nat) => V.int k) ∧ (∀ x ∈ bs, x < n) ∧ bs.length ≤ i) ⟨[], rfl, fun x hx => (by cases hx), Nat.le_refl _⟩ ?_ ?_
  · rintro i acc X H7 hX hi x1 x2 e7 ⟨bs, rfl, hb, hbl⟩
    obtain ⟨x, hx⟩ : ∃ x, ls[i]? = some x := ⟨_, List.getElem?_eq_getElem (by omega)⟩
    walk_at "e"
    refine s_ixL (ex_del _ _ (e7 _ _ (e6 _ _ hL4))) (at_nat (v := .int x) (by rw [List.getElem?_map, hx]; rfl)) ?_
    walk_at "e"
    split
    · exact lc_y (by omega) x1 x2 e7 (Ex.refl _) ⟨bs ++ [i], by rw [List.map_append]; rfl, fun x hx => by
        rcases List.mem_append.mp hx with z | z
        · exact hb x z
        · have : x = i := by simpa using z
          omega, by simp; omega⟩
    · exact lc_n x1 x2 e7 (Ex.refl _) ⟨bs, rfl, hb, by omega⟩
  rintro B H7 acc hB x1 x2 e7 ⟨bs, rfl, hbb, hbl⟩
  have e47 : Ex H4 H7 := e6.trans (e7.trans ex_del)
  have e67 : Ex H6 H7 := e7.trans ex_del
  have hD7 := e67 _ _ hD6
  have nBL : B ≠ L := fun q => by rw [q, e6 _ _ hL4] at hB; cases hB
  have nBD : B ≠ D := fun q => by rw [q, hD6] at hB; cases hB
  have nDf : ∀ f ∈ fs, f ≠ D := fun f hf q => by
    obtain ⟨xs, c1, _⟩ := hff4 f hf
    rw [q, hD4] at c1
    cases c1
  have nWD : W ≠ D := fun q => by rw [q, hD4] at hW4; cases hW4
  walk_at "1"
  walk_at "1"
  refine while_w (fun m σ H8 => ∃ (B : Addr) (bs : List Nat) (ls : List Int) (ds : List V) (cnt : Int) (v4 v5 v9 : Option V), σ = [some (.ref a), some (.ref A), some (.ref L), some (.ref W), v4, v5, some (.ref D), some (.ref B), some (.int cnt), v9, none] ∧
      (∀ b o, H4 b = some o → b ≠ L → H8 b = some o) ∧ H8 L = some (.lst (ls.map V.int)) ∧ ls.length = n ∧ H8 D = some (.lst ds) ∧ ds.length = n ∧ OkD ds ∧ H8 B = some (.lst (bs.map fun (k : Nat) => V.int k)) ∧ (∀ x ∈ bs, x < n) ∧ B ≠ L ∧ B ≠ D ∧ m = 2 * posN ls + (if bs = [] then 0 else 1)) _
    ⟨B, bs, ls, List.replicate n V.non, 0, _, _, none, rfl, fun b o hb _ => e47 b o hb, e47 _ _ hL4, hll, hD7, List.length_replicate, fun d hd => .inl (List.mem_replicate.mp hd).2, x1, hbb, nBL, nBD, rfl⟩ ?_
  clear x1 x2 hbb hbl nBL nBD hB bs hD7 e67 e47
  rintro m σ H8 ⟨B, bs, ls, ds, cnt, v4, v5, v9, rfl, hfr, hLl, hlen, hDd, hdl, hok, hBb, hbb, nBL, nBD, rfl⟩
  walk_at "e"
  refine s_nwG (Nat.zero_le _) fun z H9 hz e9 h9 => ?_
  refine s_neN (l := bs.map fun (k : Nat) => PyData.int k) (.lst (e9 _ _ hBb) (dq_nats bs)) (nats_shaped bs) h9 ?_
  walk_at "e"
  by_cases hbn : bs = []
  · rw [if_neg (fun q => q (by rw [hbn]; rfl))]
    refine k D ds H9 (fun b o hb => e9 _ _ (hfr b o (e04 _ _ hb) (ne_of_none hb hL0))) (e9 _ _ hDd) hdl hok
  · rw [if_pos (fun q => hbn (List.map_eq_nil_iff.mp q))]
    refine ⟨_, fun _ _ q => q, ?_⟩
    refine s_nwG (Nat.zero_le _) fun M H10 hM e10 h10 => ?_
    have hfr10 : ∀ b o, H4 b = some o → b ≠ L → H10 b = some o := fun b o hb hn => e10 _ _ (e9 _ _ (hfr b o hb hn))
    have hL10 := e10 _ _ (e9 _ _ hLl)
    have hD10 := e10 _ _ (e9 _ _ hDd)
    have hB10 := e10 _ _ (e9 _ _ hBb)
    have nML : M ≠ L := fun q => by rw [q, e9 _ _ hLl] at hM; cases hM
    have nMD : M ≠ D := fun q => by rw [q, e9 _ _ hDd] at hM; cases hM
    have nMB : M ≠ B := fun q => by rw [q, e9 _ _ hBb] at hM; cases hM
    have nMo : ∀ b o, H4 b = some o → b ≠ L → b ≠ M := fun b o hb hn q => by
      have := e9 _ _ (hfr b o hb hn)
      rw [q, hM] at this
      cases this
    clear hfr hLl hDd hBb hM h9 hz
    refine s_forL hB10 (fun i σ H11 => ∃ (ls' : List Int) (ds : List V) (ms : List Nat) (v4 v5 : Option V), σ = [some (.ref a), some (.ref A), some (.ref L), some (.ref W), v4, v5, some (.ref D), some (.ref B), some (.int cnt), some (.ref M), none] ∧
        (∀ b o, H4 b = some o → b ≠ L → H11 b = some o) ∧ H11 L = some (.lst (ls'.map V.int)) ∧ ls'.length = n ∧ H11 D = some (.lst ds) ∧ ds.length = n ∧ OkD ds ∧ H11 B = some (.lst (bs.map fun (k : Nat) => V.int k)) ∧ H11 M = some (.lst (ms.map fun (k : Nat) => V.int k)) ∧ (∀ x ∈ ms, x < n) ∧ ms.length + posN ls' ≤ posN ls)
      ⟨ls, ds, [], v4, v5, rfl, hfr10, hL10, hlen, hD10, hdl, hok, hB10, h10, fun x hx => (by cases hx), by simp⟩ (fun i σ H11 _ ⟨_, _, _, _, _, _, _, _, _, _, _, _, h, _⟩ => h) ?_ ?_
    · rintro N i x σ H11 hx ⟨ls', ds', ms, v4, v5, rfl, hfr, hLl, hlen', hDd, hdl', hok', hBb, hMm, hmb, hpos⟩ hN
      rw [List.getElem?_map] at hx
      obtain ⟨b0, hb0, rfl⟩ := Option.map_eq_some_iff.mp hx
      have hb0n := hbb b0 (List.mem_of_getElem? hb0)
      obtain ⟨f, hf⟩ : ∃ f, fs[b0]? = some f := ⟨_, List.getElem?_eq_getElem (by omega)⟩
      have hfm := List.mem_of_getElem? hf
      obtain ⟨ys, hys, hyb, hyl⟩ := hff4 f hfm
      have nfL := nLf f hfm
      have nfD := nDf f hfm
      walk_at "e"
      refine s_setL hDd (by omega) ?_
      walk_at "e"
      refine s_ixL (xs := fs.map V.ref) (by rw [upd_ne nWD]; exact hfr _ _ hW4 nWL) (at_nat (v := .ref f) (by rw [List.getElem?_map, hf]; rfl)) ?_
      walk_at "e"
      refine s_forL (xs := ys.map fun (k : Nat) => V.int k) (by rw [upd_ne nfD]; exact hfr _ _ hys nfL) (fun j σ H12 => ∃ (ls' : List Int) (ds : List V) (ms : List Nat) (v5 : Option V), σ = [some (.ref a), some (.ref A), some (.ref L), some (.ref W), some (.int (b0 : Nat)), v5, some (.ref D), some (.ref B), some (.int cnt), some (.ref M), none] ∧
        (∀ b o, H4 b = some o → b ≠ L → H12 b = some o) ∧ H12 L = some (.lst (ls'.map V.int)) ∧ ls'.length = n ∧ H12 D = some (.lst ds) ∧ ds.length = n ∧ OkD ds ∧ H12 B = some (.lst (bs.map fun (k : Nat) => V.int k)) ∧ H12 M = some (.lst (ms.map fun (k : Nat) => V.int k)) ∧ (∀ x ∈ ms, x < n) ∧ ms.length + posN ls' ≤ posN ls)
        ⟨ls', ds'.set b0 (.int cnt), ms, v5, rfl, fun b o hb hn => ?_, ?_, hlen', upd_same, by rw [List.length_set]; exact hdl', ?_, ?_, ?_, hmb, hpos⟩ (fun j σ H12 _ ⟨_, _, _, _, _, h, _⟩ => h _ _ hys nfL) ?_ ?_
      · rw [upd_ne (fun q => by rw [q, hD4] at hb; cases hb)]
        exact hfr b o hb hn
      · rw [upd_ne nDL.symm]
        exact hLl
      · intro d hd
        rcases List.mem_or_eq_of_mem_set hd with q | q
        · exact hok' d q
        · exact .inr ⟨cnt, q⟩
      · rw [upd_ne nBD]
        exact hBb
      · rw [upd_ne nMD]
        exact hMm
      · rintro N2 j x σ H12 hx ⟨ls2, ds2, ms2, v5, rfl, hfr2, hLl2, hlen2, hDd2, hdl2, hok2, hBb2, hMm2, hmb2, hpos2⟩ hN2
        rw [List.getElem?_map] at hx
        obtain ⟨o, ho, rfl⟩ := Option.map_eq_some_iff.mp hx
        have hon := hyb o (List.mem_of_getElem? ho)
        obtain ⟨y, hy⟩ : ∃ y, ls2[o]? = some y := ⟨_, List.getElem?_eq_getElem (by omega)⟩
        obtain ⟨p1, p2⟩ := pos_set hy
        have hpl : posN ls ≤ 126 := by
          have := List.countP_le_length (p := fun x : Int => decide (0 < x)) (l := ls)
          unfold posN
          omega
        walk_at "e"
        refine s_getL hLl2 (v := .int y) (by rw [List.getElem?_map, hy]; rfl) ?_
        walk_at "e"
        refine s_setL hLl2 (by rw [List.length_map]; omega) ?_
        have es : (ls2.map V.int).set o (V.int (y - 1)) = (ls2.set o (y - 1)).map V.int := by rw [List.map_set]
        rw [es]
        walk_at "e"
        have hy2 : (ls2.set o (y - 1))[o]? = some (y - 1) := List.getElem?_set_self (by omega)
        refine s_ixL upd_same (at_nat (v := .int (y - 1)) (by rw [List.getElem?_map, hy2]; rfl)) ?_
        walk_at "e"
        have fr3 : ∀ b o', H4 b = some o' → b ≠ L → upd H12 L (.lst ((ls2.set o (y - 1)).map V.int)) b = some o' := fun b o' hb hn => by
          rw [upd_ne hn]
          exact hfr2 b o' hb hn
        by_cases hy0 : y - 1 = 0
        · rw [if_pos hy0]
          have p2 := p2 hy0
          refine s_app (xs := ms2.map fun (k : Nat) => V.int k) (by rw [upd_ne nML]; exact hMm2) (by rw [List.length_map]; omega) (hN2 _ _ ⟨ls2.set o (y - 1), ds2, ms2 ++ [o], _, rfl, fun b o' hb hn => ?_, ?_, by rw [List.length_set]; exact hlen2, ?_, hdl2, hok2, ?_, ?_, fun x hx => ?_, ?_⟩)
          · rw [upd_ne (nMo b o' hb hn)]
            exact fr3 b o' hb hn
          · rw [upd_ne nML.symm, upd_same]
          · rw [upd_ne nMD.symm, upd_ne nDL]
            exact hDd2
          · rw [upd_ne nMB.symm, upd_ne nBL]
            exact hBb2
          · rw [upd_same, List.map_append]
            rfl
          · rcases List.mem_append.mp hx with q | q
            · exact hmb2 x q
            · have : x = o := by simpa using q
              omega
          · rw [List.length_append]
            simp only [List.length_cons, List.length_nil]
            omega
        · rw [if_neg hy0]
          refine hN2 _ _ ⟨ls2.set o (y - 1), ds2, ms2, _, rfl, fr3, upd_same, by rw [List.length_set]; exact hlen2, ?_, hdl2, hok2, ?_, ?_, hmb2, by omega⟩
          · rw [upd_ne nDL]
            exact hDd2
          · rw [upd_ne nBL]
            exact hBb2
          · rw [upd_ne nML]
            exact hMm2
      · rintro σ H12 ⟨ls2, ds2, ms2, v5, rfl, hfr2, hLl2, hlen2, hDd2, hdl2, hok2, hBb2, hMm2, hmb2, hpos2⟩
        exact hN _ _ ⟨ls2, ds2, ms2, _, _, rfl, hfr2, hLl2, hlen2, hDd2, hdl2, hok2, hBb2, hMm2, hmb2, hpos2⟩
    · rintro σ H11 ⟨ls2, ds2, ms2, v4, v5, rfl, hfr2, hLl2, hlen2, hDd2, hdl2, hok2, hBb2, hMm2, hmb2, hpos2⟩
      walk_at "e"
      refine ⟨_, ?_, M, ms2, ls2, ds2, _, _, _, _, rfl, hfr2, hLl2, hlen2, hDd2, hdl2, hok2, hMm2, hmb2, nML, nMD, rfl⟩
      rw [if_neg hbn]
      cases ms2 with
      | nil =>
        rw [if_pos rfl]
        simp only [List.length_nil] at hpos2
        omega
      | cons m0 ms2 =>
        rw [if_neg (fun q => nomatch q)]
        simp only [List.length_cons] at hpos2
        omega
theorem ok_table (T : Txt K mg) : Df P w K mg base CX0 6 "table" ["garden"] [] (spTable K) := let ⟨fd, F⟩ := T.d_table; mk_df F (fn_table T F) T.g_table (F.bindsN fun _ _ _ _ _ _ us hl => match us, hl with | [_], _ => rfl)
end
end Tk

set_option maxHeartbeats 4000000
/-! Lives: days, the best choice, rounds. -/
namespace Tk
open PySem PySem.Spec PyProof.Rows L2 He Evl
local macro_rules | `(tactic| walk_at "e") => `(tactic| (try simp only [a_seq, a_var0, a_varS, a_c, a_asg, a_name, a_set0, a_setS, a_ret, a_retN, a_ifS, a_drop, a_next, a_op, a_un, a_I0, a_I, a_U, a_bT, a_test, a_B, a_and, a_or, a_not, a_andV, a_orV, a_notV, a_if, a_isN, a_notN, a_nil, a_cons, a_CB, a_lst, a_tup, a_dget, a_din, a_dnotin, a_dput, a_newK, a_revL, a_getN, a_putN, a_newN, a_forL, a_forT, a_forR, a_lcL, a_lcR, a_yes, a_w0, a_w1, cx_K, cx_P, cx_w, a_eqI, a_neI, a_eqS, a_neS, a_call, a_callS, a_clsFn, a_meth, a_make, a_fld, a_fldS, a_BM, a_BM0, a_sl, a_noP, a_part, a_intP, a_gTup, a_gNil, a_gCons, a_gSub, a_ipI, a_ipMul, a_aug, a_augS, a_chain, m_and, m_or, a_xp, cxh_K, a_veI, a_ost, a_mkK, a_nn, not_false_eq_true, not_true_eq_false, Option.map_some, Option.map_none, Option.isSome_some, Option.isSome_none, List.map_cons, List.map_nil, true_and, and_true, true_or, or_true, false_and, and_false, false_or, or_false, if_true, if_false, Bool.false_eq_true, decide_eq_true_eq, Bool.not_eq_true, Bool.not_true, Bool.not_false, decide_eq_false_iff_not, Bool.not_eq_eq_eq_not, reduceCtorEq, Bool.true_eq_false, List.cons_append, List.nil_append, List.append_nil]))
local macro_rules | `(tactic| walk_at "1") => `(tactic| ((try simp only [a_var0, a_varS, a_c, a_asg, a_name, a_set0, a_setS, a_ret, a_retN, a_ifS, a_drop, a_next, a_op, a_un, a_I0, a_I, a_U, a_bT, a_test, a_B, a_and, a_or, a_not, a_andV, a_orV, a_notV, a_if, a_isN, a_notN, a_nil, a_cons, a_CB, a_lst, a_tup, a_dget, a_din, a_dnotin, a_dput, a_newK, a_revL, a_getN, a_putN, a_newN, a_forL, a_forT, a_forR, a_lcL, a_lcR, a_yes, a_w0, a_w1, cx_K, cx_P, cx_w, a_eqI, a_neI, a_eqS, a_neS, a_call, a_callS, a_clsFn, a_meth, a_make, a_fld, a_fldS, a_BM, a_BM0, a_sl, a_noP, a_part, a_intP, a_gTup, a_gNil, a_gCons, a_gSub, a_ipI, a_ipMul, a_aug, a_augS, a_chain, m_and, m_or, a_xp, cxh_K, a_veI, a_ost, a_mkK, a_nn, not_false_eq_true, not_true_eq_false, Option.map_some, Option.map_none, Option.isSome_some, Option.isSome_none, List.map_cons, List.map_nil, true_and, and_true, true_or, or_true, false_and, and_false, false_or, or_false, if_true, if_false, Bool.false_eq_true, decide_eq_true_eq, Bool.not_eq_true, Bool.not_true, Bool.not_false, decide_eq_false_iff_not, Bool.not_eq_eq_eq_not, reduceCtorEq, Bool.true_eq_false, List.cons_append, List.nil_append, List.append_nil]); rw [a_seq]; (try simp only [a_var0, a_varS, a_c, a_asg, a_name, a_set0, a_setS, a_ret, a_retN, a_ifS, a_drop, a_next, a_op, a_un, a_I0, a_I, a_U, a_bT, a_test, a_B, a_and, a_or, a_not, a_andV, a_orV, a_notV, a_if, a_isN, a_notN, a_nil, a_cons, a_CB, a_lst, a_tup, a_dget, a_din, a_dnotin, a_dput, a_newK, a_revL, a_getN, a_putN, a_newN, a_forL, a_forT, a_forR, a_lcL, a_lcR, a_yes, a_w0, a_w1, cx_K, cx_P, cx_w, a_eqI, a_neI, a_eqS, a_neS, a_call, a_callS, a_clsFn, a_meth, a_make, a_fld, a_fldS, a_BM, a_BM0, a_sl, a_noP, a_part, a_intP, a_gTup, a_gNil, a_gCons, a_gSub, a_ipI, a_ipMul, a_aug, a_augS, a_chain, m_and, m_or, a_xp, cxh_K, a_veI, a_ost, a_mkK, a_nn, not_false_eq_true, not_true_eq_false, Option.map_some, Option.map_none, Option.isSome_some, Option.isSome_none, List.map_cons, List.map_nil, true_and, and_true, true_or, or_true, false_and, and_false, false_or, or_false, if_true, if_false, Bool.false_eq_true, decide_eq_true_eq, Bool.not_eq_true, Bool.not_true, Bool.not_false, decide_eq_false_iff_not, Bool.not_eq_eq_eq_not, reduceCtorEq, Bool.true_eq_false, List.cons_append, List.nil_append, List.append_nil])))
local macro_rules | `(tactic| walk_at "0") => `(tactic| (try simp only [a_var0, a_varS, a_c, a_asg, a_name, a_set0, a_setS, a_ret, a_retN, a_ifS, a_drop, a_next, a_op, a_un, a_I0, a_I, a_U, a_bT, a_test, a_B, a_and, a_or, a_not, a_andV, a_orV, a_notV, a_if, a_isN, a_notN, a_nil, a_cons, a_CB, a_lst, a_tup, a_dget, a_din, a_dnotin, a_dput, a_newK, a_revL, a_getN, a_putN, a_newN, a_forL, a_forT, a_forR, a_lcL, a_lcR, a_yes, a_w0, a_w1, cx_K, cx_P, cx_w, a_eqI, a_neI, a_eqS, a_neS, a_call, a_callS, a_clsFn, a_meth, a_make, a_fld, a_fldS, a_BM, a_BM0, a_sl, a_noP, a_part, a_intP, a_gTup, a_gNil, a_gCons, a_gSub, a_ipI, a_ipMul, a_aug, a_augS, a_chain, m_and, m_or, a_xp, cxh_K, a_veI, a_ost, a_mkK, a_nn, not_false_eq_true, not_true_eq_false, Option.map_some, Option.map_none, Option.isSome_some, Option.isSome_none, List.map_cons, List.map_nil, true_and, and_true, true_or, or_true, false_and, and_false, false_or, or_false, if_true, if_false, Bool.false_eq_true, decide_eq_true_eq, Bool.not_eq_true, Bool.not_true, Bool.not_false, decide_eq_false_iff_not, Bool.not_eq_eq_eq_not, reduceCtorEq, Bool.true_eq_false, List.cons_append, List.nil_append, List.append_nil]))
section
variable {P : Program} {w : World} {K : PySem.W.Frag} {mg : Str → Option Value} {base : Heap}
theorem GdIn.but {K : PySem.W.Frag} {H H' : Hp} {p C dx : Addr} (hp : H p = some (.ins C dx [])) (h : ∀ b o, H b = some o → b ≠ p → H' b = some o) {a l d : Addr} {ps : List V} {g : Gd} (hG : GdIn K H a l d ps g) : GdIn K H' a l d ps g := by
  have ne : ∀ {b : Addr} {o : HO}, H b = some o → o ≠ .ins C dx [] → H' b = some o := fun {b o} hb hne => h b o hb fun q => by
    rw [q, hp] at hb
    exact hne (Option.some.inj hb).symm
  obtain ⟨⟨dg, h1⟩, h2, h3, h4⟩ := hG
  refine ⟨⟨dg, ne h1 (fun q => by have := (HO.ins.inj q).2.2; simp [grdF] at this)⟩, ne h2 (fun q => nomatch q), ne h3 (fun q => nomatch q), pairM (fun v q hP => ?_) h4⟩
  cases hP with
  | pot h hr => exact .pot (ne h (fun q => by have := (HO.ins.inj q).2.2; simp at this)) hr
  | cac h hr => exact .cac (ne h (fun q => by have := (HO.ins.inj q).2.2; simp at this)) hr
structure LvIn (K : PySem.W.Frag) (H : Hp) (p a tb : Addr) (ds : List V) (n : Nat) : Prop where
  obj : ∃ dx, H p = some (.ins (ga K "Lives") dx [("garden", .ref a), ("table", .ref tb)])
  tab : H tb = some (.lst ds)
  len : ds.length = n
  ok : OkD ds
theorem LvIn.mono {K : PySem.W.Frag} {H H' : Hp} (e : Ex H H') {p a tb : Addr} {ds : List V} {n : Nat} (h : LvIn K H p a tb ds n) : LvIn K H' p a tb ds n := ⟨let ⟨dx, q⟩ := h.obj; ⟨dx, e _ _ q⟩, e _ _ h.tab, h.len, h.ok⟩
def spLives (K : PySem.W.Frag) : Sp := fun vs H Q _ => ∃ (p dx a l d : Addr) (ps : List V) (g : Gd) (n : Nat), vs = [.ref p, .ref a] ∧ H p = some (.ins (ga K "Lives") dx []) ∧ GdIn K H a l d ps g ∧ g.Ok ∧ sizeI g = (n : Nat) ∧
  ∀ (tb : Addr) (ds : List V) (H' : Hp), (∀ b o, H b = some o → b ≠ p → H' b = some o) → LvIn K H' p a tb ds n → Q .non H'
theorem sc_Lives_init : FnScope ["self", "garden"] ["self", "garden"] (defScope s_Lives_init) := ⟨rfl, rfl, rfl, by decide +kernel, rfl, by decide +kernel, by decide +kernel⟩
theorem st_Lives_init (p0 p1 : V) : start ["self", "garden"] [p0, p1] = [some p0, some p1] := rfl
theorem fn_Lives_init (T : Txt K mg) {fd : FuncData} (F : FunD K "__init__" "Lives.__init__" (defArgs s_Lives_init) (defBody s_Lives_init) (defScope s_Lives_init) [] [] (ma K (ga K "Lives") "__init__") fd) : FnOk P w K mg base CX0 7 (ma K (ga K "Lives") "__init__") fd ["self", "garden"] (spLives K) := by
  refine F.ok (CX := CX0) (k := 6) sc_Lives_init (fun vs H Q E h => ?L) (fun cdv A outer s H vs Q E hr h => ?B)
  case L => first | (obtain ⟨_, rfl, _⟩ := h; rfl) | (obtain ⟨_, _, rfl, _⟩ := h; rfl) | (obtain ⟨_, _, _, rfl, _⟩ := h; rfl) | (obtain ⟨_, _, _, _, rfl, _⟩ := h; rfl) | (obtain ⟨_, _, _, _, _, rfl, _⟩ := h; rfl) | (obtain ⟨_, _, _, _, _, _, rfl, _⟩ := h; rfl) | (obtain ⟨_, _, _, _, _, _, _, rfl, _⟩ := h; rfl) | (obtain ⟨_, _, _, _, _, _, _, _, rfl, _⟩ := h; rfl) | (obtain ⟨_, _, _, _, _, _, _, _, _, rfl, _⟩ := h; rfl) | (obtain ⟨_, _, _, _, _, _, _, _, _, _, rfl, _⟩ := h; rfl) | (obtain ⟨_, _, _, _, _, _, _, _, _, _, _, rfl, _⟩ := h; rfl) | (obtain ⟨_, _, _, _, _, _, _, _, _, _, _, _, rfl, _⟩ := h; rfl) | (obtain ⟨_, _, _, _, _, _, _, _, _, _, _, _, _, rfl, _⟩ := h; rfl)
  case B =>
  refine ⟨_, PSs.nox ((pss_cons (ps_fld (pv 0) (pv 1) rfl)
      (pss_one (ps_fld (pv 0) (pe_df (ok_table T) (hr.mono (by decide)) rfl pass0 (pa_cons (pv 1) pa_nil)) rfl)))), ?_⟩
  obtain ⟨p, dx, a, l, d, ps, g, n, rfl, hp, hG, ok, hn, k⟩ := h
  rw [st_Lives_init]
  walk_at "1"
  refine s_fldS hp T.c_Lives T.n_Lives_garden (by decide) ?_
  have hG1 := hG.but (H' := upd H p (.ins (ga K "Lives") dx (putF "garden" (.ref a) []))) hp fun b o hb hne => by rw [upd_ne hne]; exact hb
  walk_at "e"
  refine ⟨a, l, d, ps, g, n, rfl, hG1, ok, hn, fun tb ds H2 e2 htb hl hds => ?_⟩
  have hp2 := e2 _ _ (show upd H p (.ins (ga K "Lives") dx (putF "garden" (.ref a) [])) p = _ from upd_same)
  walk_at "e"
  refine s_fldS hp2 T.c_Lives T.n_Lives_table (by show 1 < 1000; decide) ?_
  have nptb : tb ≠ p := fun q => by rw [q, hp2] at htb; cases htb
  have ef : putF "table" (V.ref tb) (putF "garden" (V.ref a) []) = ([("garden", V.ref a), ("table", V.ref tb)] : List (Str × V)) := by
    have n1 : ¬ (("garden" : Str) = "table") := by decide +kernel
    simp [putF, n1]
  refine k tb ds _ (fun b o hb hne => ?_) ⟨⟨dx, ?_⟩, ?_, hl, hds⟩
  · rw [upd_ne hne]
    exact e2 _ _ (by rw [upd_ne hne]; exact hb)
  · rw [upd_same, ef]
  · rw [upd_ne nptb]
    exact htb
theorem ok_Lives_init (T : Txt K mg) : Ck P w K mg base CX0 7 (ga K "Lives") "Lives" ["self", "garden"] [] (spLives K) := let ⟨fd, F⟩ := T.d_Lives_init; mk_ck (fn_Lives_init T F) T.k_Lives T.g_Lives (F.bindsN fun _ _ _ _ _ _ us hl => match us, hl with | [_, _], _ => rfl)
theorem lv_garden (T : Txt K mg) {H : Hp} {Q : VK} {p a tb : Addr} {ds : List V} {n : Nat} (h : LvIn K H p a tb ds n) (q : Q (.ref a) H) : fldR K "garden" (.ref p) H Q := let ⟨_, o⟩ := h.obj; s_fld o T.c_Lives T.n_Lives_garden lk0 q
theorem lv_table (T : Txt K mg) {H : Hp} {Q : VK} {p a tb : Addr} {ds : List V} {n : Nat} (h : LvIn K H p a tb ds n) (q : Q (.ref tb) H) : fldR K "table" (.ref p) H Q := let ⟨_, o⟩ := h.obj; s_fld o T.c_Lives T.n_Lives_table (by rw [lkS (by decide +kernel)]; exact lk0) q
theorem lv_rcv {H : Hp} {k : Hp → Prop} {p a tb : Addr} {ds : List V} {n : Nat} {m : Str} (h : LvIn K H p a tb ds n) (h1 : ¬ m = "garden") (h2 : ¬ m = "table") (q : k H) : rcv (ga K "Lives") m (.ref p) H k := let ⟨_, o⟩ := h.obj; s_rcv o (by rw [lkS h1, lkS h2]; rfl) q
def spDays (K : PySem.W.Frag) : Sp := fun vs H Q _ => ∃ (p a tb l d : Addr) (ps : List V) (g : Gd) (n : Nat) (ds : List V) (v : V) (st : Stt), vs = [.ref p, v] ∧ LvIn K H p a tb ds n ∧ GdIn K H a l d ps g ∧ g.Ok ∧ sizeI g = (n : Nat) ∧ StA H v st ∧ StOk g st ∧
  (Q .non H ∧ ∀ i : Int, Q (.int i) H)
theorem sc_Lives_days : FnScope ["self", "state"] ["self", "state"] (defScope s_Lives_days) := ⟨rfl, rfl, rfl, by decide +kernel, rfl, by decide +kernel, by decide +kernel⟩
theorem st_Lives_days (p0 p1 : V) : start ["self", "state"] [p0, p1] = [some p0, some p1] := rfl
theorem fn_Lives_days (T : Txt K mg) {fd : FuncData} (F : FunD K "days" "Lives.days" (defArgs s_Lives_days) (defBody s_Lives_days) (defScope s_Lives_days) [] [] (ma K (ga K "Lives") "days") fd) : FnOk P w K mg base CX0 4 (ma K (ga K "Lives") "days") fd ["self", "state"] (spDays K) := by
  refine F.ok (CX := CX0) (k := 3) sc_Lives_days (fun vs H Q E h => ?L) (fun cdv A outer s H vs Q E hr h => ?B)
  case L => first | (obtain ⟨_, rfl, _⟩ := h; rfl) | (obtain ⟨_, _, rfl, _⟩ := h; rfl) | (obtain ⟨_, _, _, rfl, _⟩ := h; rfl) | (obtain ⟨_, _, _, _, rfl, _⟩ := h; rfl) | (obtain ⟨_, _, _, _, _, rfl, _⟩ := h; rfl) | (obtain ⟨_, _, _, _, _, _, rfl, _⟩ := h; rfl) | (obtain ⟨_, _, _, _, _, _, _, rfl, _⟩ := h; rfl) | (obtain ⟨_, _, _, _, _, _, _, _, rfl, _⟩ := h; rfl) | (obtain ⟨_, _, _, _, _, _, _, _, _, rfl, _⟩ := h; rfl) | (obtain ⟨_, _, _, _, _, _, _, _, _, _, rfl, _⟩ := h; rfl) | (obtain ⟨_, _, _, _, _, _, _, _, _, _, _, rfl, _⟩ := h; rfl) | (obtain ⟨_, _, _, _, _, _, _, _, _, _, _, _, rfl, _⟩ := h; rfl) | (obtain ⟨_, _, _, _, _, _, _, _, _, _, _, _, _, rfl, _⟩ := h; rfl)
  case B =>
  refine ⟨_, PSs.nox ((pss_one (ps_ret (pe_ix ix_list (pe_fld (pv 0) rfl) (pe_mt (pe_fld (pv 0) rfl) (ok_Garden_number T) (hr.mono (by decide)) pass0 (pa_cons (pv 1) pa_nil)) (fun _ _ => rfl))))), ?_⟩
  obtain ⟨p, a, tb, l, d, ps, g, n, ds, v, st, rfl, hL, hG, ok, hn, hst, hs, k1, k2⟩ := h
  rw [st_Lives_days]
  walk_at "e"
  refine lv_table T hL ?_
  walk_at "e"
  refine lv_garden T hL ?_
  walk_at "e"
  refine g_rcv hG (Ex.refl _) (by decide +kernel) (by decide +kernel) (by decide +kernel) (by decide +kernel) (by decide +kernel) ?_
  refine ⟨a, l, d, ps, g, v, st, rfl, hG, ok, hst, hs, ?_⟩
  have hb := numI_bd ok hs
  have hlt : (numI g st).toNat < ds.length := by have := hL.len; omega
  refine s_ixL hL.tab (at_int hb.1 (List.getElem?_eq_getElem hlt)) ?_
  rcases hL.ok _ (List.getElem_mem hlt) with q | ⟨i, q⟩
  · rw [q]
    exact k1
  · rw [q]
    exact k2 i
theorem ok_Lives_days (T : Txt K mg) : Mt P w K mg base CX0 4 (ga K "Lives") "days" ["self", "state"] (spDays K) := let ⟨fd, F⟩ := T.d_Lives_days; mk_mt (fn_Lives_days T F) T.c_Lives T.m_Lives_days (F.bindsN fun _ _ _ _ _ _ us hl => match us, hl with | [_, _], _ => rfl)
def BestV (g : Gd) (H : Hp) (v : V) : Prop := v = .non ∨ ∃ (t : Addr) (c : Nat) (sv : V) (st : Stt), v = .ref t ∧ H t = some (.tup [.int (c : Nat), sv]) ∧ c < 2 ^ g.pots.length ∧ StA H sv st ∧ StOk g st
theorem BestV.mono {g : Gd} {H H' : Hp} (e : Ex H H') {v : V} (h : BestV g H v) : BestV g H' v := h.elim .inl fun ⟨t, c, sv, st, h1, h2, h3, h4, h5⟩ => .inr ⟨t, c, sv, st, h1, e _ _ h2, h3, h4.mono e, h5⟩
def spBest (K : PySem.W.Frag) : Sp := fun vs H Q _ => ∃ (p a tb l d : Addr) (ps : List V) (g : Gd) (n : Nat) (ds : List V) (v : V) (st : Stt), vs = [.ref p, v] ∧ LvIn K H p a tb ds n ∧ GdIn K H a l d ps g ∧ g.Ok ∧ sizeI g = (n : Nat) ∧ StA H v st ∧ StOk g st ∧
  ∀ (u : V) (H' : Hp), Ex H H' → BestV g H' u → Q u H'
theorem sc_Lives_best : FnScope ["self", "state", "found", "most", "chosen", "ahead", "kept"] ["self", "state"] (defScope s_Lives_best) := ⟨rfl, rfl, rfl, by decide +kernel, rfl, by decide +kernel, by decide +kernel⟩
theorem st_Lives_best (p0 p1 : V) : start ["self", "state", "found", "most", "chosen", "ahead", "kept"] [p0, p1] = [some p0, some p1, none, none, none, none, none] := rfl
theorem fn_Lives_best (T : Txt K mg) {fd : FuncData} (F : FunD K "best" "Lives.best" (defArgs s_Lives_best) (defBody s_Lives_best) (defScope s_Lives_best) [] [] (ma K (ga K "Lives") "best") fd) : FnOk P w K mg base CX0 5 (ma K (ga K "Lives") "best") fd ["self", "state"] (spBest K) := by
  refine F.ok (CX := CX0) (k := 4) sc_Lives_best (fun vs H Q E h => ?L) (fun cdv A outer s H vs Q E hr h => ?B)
  case L => first | (obtain ⟨_, rfl, _⟩ := h; rfl) | (obtain ⟨_, _, rfl, _⟩ := h; rfl) | (obtain ⟨_, _, _, rfl, _⟩ := h; rfl) | (obtain ⟨_, _, _, _, rfl, _⟩ := h; rfl) | (obtain ⟨_, _, _, _, _, rfl, _⟩ := h; rfl) | (obtain ⟨_, _, _, _, _, _, rfl, _⟩ := h; rfl) | (obtain ⟨_, _, _, _, _, _, _, rfl, _⟩ := h; rfl) | (obtain ⟨_, _, _, _, _, _, _, _, rfl, _⟩ := h; rfl) | (obtain ⟨_, _, _, _, _, _, _, _, _, rfl, _⟩ := h; rfl) | (obtain ⟨_, _, _, _, _, _, _, _, _, _, rfl, _⟩ := h; rfl) | (obtain ⟨_, _, _, _, _, _, _, _, _, _, _, rfl, _⟩ := h; rfl) | (obtain ⟨_, _, _, _, _, _, _, _, _, _, _, _, rfl, _⟩ := h; rfl) | (obtain ⟨_, _, _, _, _, _, _, _, _, _, _, _, _, rfl, _⟩ := h; rfl)
  case B =>
  refine ⟨_, PSs.nox ((pss_cons (ps_set (i := 2) sc_Lives_best.nd rfl (Or.inl rfl) pe_non)
      (pss_cons (ps_set (i := 3) sc_Lives_best.nd rfl (Or.inl rfl) (pe_un un_neg pe_int))
      (pss_cons (ps_for PassesOwn.never rfl (pi_list (pe_df (ok_choices T) (hr.mono (by decide)) rfl pass0 (pa_cons (pe_fld (pv 0) rfl) (pa_cons (pv 1) pa_nil)))) (pg_tup rfl (pgs_cons (pg_name (i := 4) sc_Lives_best.nd rfl (Or.inl rfl)) (pgs_cons (pg_name (i := 5) sc_Lives_best.nd rfl (Or.inl rfl)) pgs_nil)))
      (pss_cons (ps_set (i := 6) sc_Lives_best.nd rfl (Or.inl rfl) (pe_mt (pv 0) (ok_Lives_days T) (hr.mono (by decide)) pass0 (pa_cons (pv 5) pa_nil)))
      (pss_cons (ps_if (pt_cmpR op_isN (pv 6) pe_non (nomark _)) (pss_one (ps_ret (pe_tup (pa_cons (pv 4) (pa_cons (pv 5) pa_nil)))))
      pss_nil)
      (pss_one (ps_if (pt_cmpR op_gt (pv 6) (pv 3) (nomark _)) (pss_cons (ps_set (i := 3) sc_Lives_best.nd rfl (Or.inl rfl) (pv 6))
      (pss_one (ps_set (i := 2) sc_Lives_best.nd rfl (Or.inl rfl) (pe_tup (pa_cons (pv 4) (pa_cons (pv 5) pa_nil))))))
      pss_nil)))))
      (pss_one (ps_ret (pv 2))))))), ?_⟩
  obtain ⟨p, a, tb, l, d, ps, g, n, ds, v, st, rfl, hL, hG, ok, hn, hst, hs, k⟩ := h
  rw [st_Lives_best]
  walk_at "1"
  walk_at "1"
  walk_at "1"
  refine lv_garden T hL ?_
  walk_at "0"
  refine ⟨a, l, d, ps, g, v, st, rfl, hG, ok, hst, hs, fun cp us H1 e1 hcp hcl hch => ?_⟩
  walk_at "0"
  refine s_forL hcp (fun i σ H2 => ∃ (fv : V) (mo : Int) (v4 v5 v6 : Option V), σ = [some (.ref p), some v, some fv, some (.int mo), v4, v5, v6] ∧ Ex H1 H2 ∧ BestV g H2 fv) ⟨.non, -1, none, none, none, rfl, Ex.refl _, .inl rfl⟩ (fun i σ H2 _ ⟨_, _, _, _, _, _, e, _⟩ => e _ _ hcp) ?_ ?_
  · rintro N i x σ H2 hx ⟨fv, mo, v4, v5, v6, rfl, e2, hfv⟩ hN
    obtain ⟨t, c, sv, st2, rfl, ht, hc, hsv, hok⟩ := (hch.mono e2) x (List.mem_of_getElem? hx)
    obtain ⟨z1, z2, rfl, hz1, hz2⟩ := id hsv
    have e02 := e1.trans e2
    have hL2 := hL.mono e02
    walk_at "e"
    refine s_tupG ht rfl ?_
    walk_at "e"
    refine lv_rcv hL2 (by decide +kernel) (by decide +kernel) ?_
    refine ⟨p, a, tb, l, d, ps, g, n, ds, .ref z1, st2, rfl, hL2, hG.mono e02, ok, hn, hsv, hok, ?_, fun kd => ?_⟩
    · walk_at "e"
      refine s_nwTG (by show 2 ≤ 100000; decide) fun r H3 _ e3 h3 => ?_
      exact k (.ref r) H3 (e02.trans e3) (.inr ⟨r, c, .ref z1, st2, rfl, h3, hc, hsv.mono e3, hok⟩)
    · walk_at "e"
      split
      · refine s_nwTG (by show 2 ≤ 100000; decide) fun r H3 _ e3 h3 => ?_
        exact hN _ _ ⟨_, _, _, _, _, rfl, e2.trans e3, .inr ⟨r, c, .ref z1, st2, rfl, h3, hc, hsv.mono e3, hok⟩⟩
      · exact hN _ _ ⟨_, _, _, _, _, rfl, e2, hfv⟩
  · rintro σ H2 ⟨fv, mo, v4, v5, v6, rfl, e2, hfv⟩
    walk_at "e"
    exact k fv H2 (e1.trans e2) hfv
theorem ok_Lives_best (T : Txt K mg) : Mt P w K mg base CX0 5 (ga K "Lives") "best" ["self", "state"] (spBest K) := let ⟨fd, F⟩ := T.d_Lives_best; mk_mt (fn_Lives_best T F) T.c_Lives T.m_Lives_best (F.bindsN fun _ _ _ _ _ _ us hl => match us, hl with | [_, _], _ => rfl)
def dl (H : Hp) (M R : Addr) : Hp := del (del H M) R
theorem dl_ex {H : Hp} {M R : Addr} : Ex (dl H M R) H := ex_del.trans ex_del
theorem dl_ex2 {H H' : Hp} {M R : Addr} (e : Ex H H') : Ex (dl H M R) (dl H' M R) := ex_del2 (ex_del2 e)
theorem del_comm {H : Hp} {M R : Addr} (h : R ≠ M) : del (del H M) R = del (del H R) M := funext fun b => by
  unfold del
  by_cases h1 : b = R <;> by_cases h2 : b = M <;> simp [h1, h2]
theorem tup_dl {H : Hp} {P : Program} {w : World} {M R b : Addr} {es : Ens} {ys xs : List V} (hb : H b = some (.tup xs)) (hM : H M = some (DN P w M es)) (hR : H R = some (.lst ys)) : dl H M R b = some (.tup xs) := by
  unfold dl
  rw [del_ne (fun q => by rw [q, hR] at hb; cases hb), del_ne (fun q => by rw [q, hM] at hb; cases hb)]
  exact hb
theorem sta_dl {H : Hp} {P : Program} {w : World} {M R : Addr} {es : Ens} {ys : List V} {v : V} {st : Stt} (h : StA H v st) (hM : H M = some (DN P w M es)) (hR : H R = some (.lst ys)) : StA (dl H M R) v st := let ⟨z1, z2, h2, h3, h4⟩ := h; ⟨z1, z2, h2, tup_dl h3 hM hR, tup_dl h4 hM hR⟩
theorem best_dl {g : Gd} {H : Hp} {P : Program} {w : World} {M R : Addr} {es : Ens} {ys : List V} {v : V} (h : BestV g H v) (hM : H M = some (DN P w M es)) (hR : H R = some (.lst ys)) : BestV g (dl H M R) v := h.elim .inl fun ⟨t, c, sv, st, h1, h2, h3, h4, h5⟩ => .inr ⟨t, c, sv, st, h1, tup_dl h2 hM hR, h3, sta_dl h4 hM hR, h5⟩
/-- between two turns of rounds_of -/
structure RI (P : Program) (w : World) (g : Gd) (H2 : Hp) (M R : Addr) (H : Hp) (es : Ens) (now : V) (st : Stt) (rows : List (List PyData)) (vs : List V) : Prop where
  ex : Ex H2 (dl H M R)
  met : H M = some (DN P w M es)
  keys : KeysAt (dl H M R) es
  vals : ∀ (i : Nat) (e : Stt × Addr × V), es[i]? = some e → e.2.2 = .int (i : Nat)
  nd : (es.map (·.1)).Nodup
  all : ∀ s ∈ es.map (·.1), StOk g s
  rws : H R = some (.lst vs)
  dq : DqAll (dl H M R) vs (rows.map .list)
  rok : ∀ r ∈ rows, RowD r
  len : rows.length = es.length
  now : StA (dl H M R) now st
  ok : StOk g st
theorem cut_take {xs : List V} {j : Nat} (h : j ≤ xs.length) : cutV xs none (some ((j : Nat) : Int)) = xs.take j := by
  unfold cutV
  have e1 : HT.sIx xs.length 0 none = 0 := rfl
  have e2 : HT.sIx xs.length xs.length (some ((j : Nat) : Int)) = j := by
    show (if ((j : Nat) : Int) < 0 then (((j : Nat) : Int) + (xs.length : Int)).toNat else min ((j : Nat) : Int).toNat xs.length) = j
    rw [if_neg (by omega), Int.toNat_natCast]
    exact Nat.min_eq_left h
  rw [e1, e2, List.drop_zero, Nat.sub_zero]
theorem cut_drop {xs : List V} {j : Nat} (h : j ≤ xs.length) : cutV xs (some ((j : Nat) : Int)) none = xs.drop j := by
  unfold cutV
  have e1 : HT.sIx xs.length xs.length none = xs.length := rfl
  have e2 : HT.sIx xs.length 0 (some ((j : Nat) : Int)) = j := by
    show (if ((j : Nat) : Int) < 0 then (((j : Nat) : Int) + (xs.length : Int)).toNat else min ((j : Nat) : Int).toNat xs.length) = j
    rw [if_neg (by omega), Int.toNat_natCast]
    exact Nat.min_eq_left h
  rw [e1, e2]
  exact List.take_of_length_le (by rw [List.length_drop]; exact Nat.le_refl _)
def spRounds (K : PySem.W.Frag) : Sp := fun vs H Q _ => ∃ (a l d : Addr) (ps : List V) (g : Gd), vs = [.ref a, .non] ∧ GdIn K H a l d ps g ∧ g.Ok ∧
  ∀ (t : Addr) (p1 : Addr) (r1 : List (List PyData)) (v2 : V) (H' : Hp), Ex H H' → H' t = some (.tup [.ref p1, v2]) → Dq H' (.ref p1) (.list (r1.map .list)) → RowsD r1 → r1.length ≤ 200 →
    (v2 = .non ∨ ∃ (p2 : Addr) (r2 : List (List PyData)), v2 = .ref p2 ∧ Dq H' (.ref p2) (.list (r2.map .list)) ∧ RowsD r2 ∧ r2.length ≤ 200 ∧ 0 < r2.length) → Q (.ref t) H'
theorem sc_rounds_of : FnScope ["garden", "state", "lives", "now", "met", "rows", "step"] ["garden", "state"] (defScope s_rounds_of) := ⟨rfl, rfl, rfl, by decide +kernel, rfl, by decide +kernel, by decide +kernel⟩
theorem st_rounds_of (p0 p1 : V) : start ["garden", "state", "lives", "now", "met", "rows", "step"] [p0, p1] = [some p0, some p1, none, none, none, none, none] := rfl
theorem fn_rounds_of (T : Txt K mg) {fd : FuncData} (F : FunD K "rounds_of" "rounds_of" (defArgs s_rounds_of) (defBody s_rounds_of) (defScope s_rounds_of) [V.non] [] (ga K "rounds_of") fd) : FnOk P w K mg base CX0 9 (ga K "rounds_of") fd ["garden", "state"] (spRounds K) := by
  refine F.ok (CX := CX0) (k := 8) sc_rounds_of (fun vs H Q E h => ?L) (fun cdv A outer s H vs Q E hr h => ?B)
  case L => first | (obtain ⟨_, rfl, _⟩ := h; rfl) | (obtain ⟨_, _, rfl, _⟩ := h; rfl) | (obtain ⟨_, _, _, rfl, _⟩ := h; rfl) | (obtain ⟨_, _, _, _, rfl, _⟩ := h; rfl) | (obtain ⟨_, _, _, _, _, rfl, _⟩ := h; rfl) | (obtain ⟨_, _, _, _, _, _, rfl, _⟩ := h; rfl) | (obtain ⟨_, _, _, _, _, _, _, rfl, _⟩ := h; rfl) | (obtain ⟨_, _, _, _, _, _, _, _, rfl, _⟩ := h; rfl) | (obtain ⟨_, _, _, _, _, _, _, _, _, rfl, _⟩ := h; rfl) | (obtain ⟨_, _, _, _, _, _, _, _, _, _, rfl, _⟩ := h; rfl) | (obtain ⟨_, _, _, _, _, _, _, _, _, _, _, rfl, _⟩ := h; rfl) | (obtain ⟨_, _, _, _, _, _, _, _, _, _, _, _, rfl, _⟩ := h; rfl) | (obtain ⟨_, _, _, _, _, _, _, _, _, _, _, _, _, rfl, _⟩ := h; rfl)
  case B =>
  refine ⟨_, PSs.nox ((pss_cons (ps_set (i := 2) sc_rounds_of.nd rfl (Or.inl rfl) (pe_ck (ok_Lives_init T) (hr.mono (by decide)) rfl pass0 (pa_cons (pv 0) pa_nil)))
      (pss_cons (ps_set (i := 3) sc_rounds_of.nd rfl (Or.inl rfl) (pe_ifExp (pt_cmpR op_isN (pv 1) pe_non (nomark _)) (pe_mt0 (pv 0) (ok_Garden_fresh T) (hr.mono (by decide)) pass0) (pv 1)))
      (pss_cons (ps_expr (pe_mt (pv 0) (ok_Garden_number T) (hr.mono (by decide)) pass0 (pa_cons (pv 3) pa_nil)))
      (pss_cons (ps_set (i := 4) sc_rounds_of.nd rfl (Or.inl rfl) pe_dnewN)
      (pss_cons (ps_set (i := 5) sc_rounds_of.nd rfl (Or.inl rfl) (pe_lst pa_nil))
      (pss_cons (ps_set (i := 6) sc_rounds_of.nd rfl (Or.inl rfl) (pe_mt (pv 2) (ok_Lives_best T) (hr.mono (by decide)) pass0 (pa_cons (pv 3) pa_nil)))
      (pss_cons (ps_while PassesOwn.never (PW.pt (pw_and (pt_cmpR op_notN (pv 6) pe_non (nomark _)) (pw_and1 (pt_cmpR (op_notInN (hu_9 hr)) (pv 3) (pv 4) (by rfl)))))
      (pss_cons (ps_putN (hu_9 hr) (pv 4) (pv 3) (pe_callB call_lenQ (by rfl) T.f_len (by decide +kernel) (pa_cons (pv 5) pa_nil)))
      (pss_cons (ps_expr (pe_bm PySem.F.plainAttrs_list PySem.F.slot_list_append PySem.F.type_list_append mt_append (pv 5) (pa_cons (pe_df (ok_names_of T) (hr.mono (by decide)) rfl pass0 (pa_cons (pv 0) (pa_cons (pe_ix ix_tup (pv 6) pe_int (fun _ _ => rfl)) pa_nil))) pa_nil)))
      (pss_cons (ps_set (i := 3) sc_rounds_of.nd rfl (Or.inl rfl) (pe_ix ix_tup (pv 6) pe_int (fun _ _ => rfl)))
      (pss_one (ps_set (i := 6) sc_rounds_of.nd rfl (Or.inl rfl) (pe_mt (pv 2) (ok_Lives_best T) (hr.mono (by decide)) pass0 (pa_cons (pv 3) pa_nil))))))))
      (pss_cons (ps_if (pt_cmpR (op_notInN (hu_9 hr)) (pv 3) (pv 4) (by rfl)) (pss_one (ps_ret (pe_tup (pa_cons (pv 5) (pa_cons pe_non pa_nil)))))
      pss_nil)
      (pss_one (ps_ret (pe_tup (pa_cons (pe_slice sl_list (pv 5) po_none (po_some (pe_getN (hu_9 hr) (pv 4) (pv 3) (fun _ _ => rfl)))) (pa_cons (pe_slice sl_list (pv 5) (po_some (pe_getN (hu_9 hr) (pv 4) (pv 3) (fun _ _ => rfl))) po_none) pa_nil)))))))))))))), ?_⟩
  obtain ⟨a, l, d, ps, g, rfl, hG, ok, k⟩ := h
  have hn3 := ok.n3
  obtain ⟨n, hn⟩ : ∃ n : Nat, sizeI g = (n : Nat) := ⟨(sizeI g).toNat, by have := size_pos ok; omega⟩
  rw [st_rounds_of]
  walk_at "1"
  intro p dx hp hdx hne
  have e0 : Ex H (upd (upd H dx (.own p)) p (.ins (ga K "Lives") dx [])) := made_ex hp hdx fun b _ => rfl
  refine ⟨p, dx, a, l, d, ps, g, n, rfl, upd_same, hG.mono e0, ok, hn, fun tb ds H1 h1 hL => ⟨rfl, ?_⟩⟩
  have e1 : Ex H H1 := fun b o hb => h1 b o (e0 b o hb) (ne_of_none hb hp)
  have hG1 := hG.mono e1
  walk_at "1"
  refine g_rcv hG1 (Ex.refl _) (by decide +kernel) (by decide +kernel) (by decide +kernel) (by decide +kernel) (by decide +kernel) ?_
  refine ⟨a, l, d, ps, g, rfl, hG1, hn3, fun v H2 hv e2 => ?_⟩
  walk_at "1"
  refine g_rcv (hG1.mono e2) (Ex.refl _) (by decide +kernel) (by decide +kernel) (by decide +kernel) (by decide +kernel) (by decide +kernel) ?_
  refine ⟨a, l, d, ps, g, v, freshS g, rfl, hG1.mono e2, ok, hv, fresh_ok ok, ?_⟩
  walk_at "1"
  intro M hM
  walk_at "1"
  refine s_nil fun R hR => ?_
  walk_at "1"
  have eM : Ex H2 (upd H2 M (DN P w M [])) := Ex.new hM
  have hR0 : H2 R = none := fresh_back eM hR
  have nRM : R ≠ M := fun q => by rw [q, upd_same] at hR; cases hR
  have e23 : Ex H2 (upd (upd H2 M (DN P w M [])) R (.lst [])) := eM.trans (Ex.new hR)
  have hR3 : upd (upd H2 M (DN P w M [])) R (.lst []) R = some (.lst []) := upd_same
  have hM3 : upd (upd H2 M (DN P w M [])) R (.lst []) M = some (DN P w M []) := by rw [upd_ne nRM.symm, upd_same]
  generalize upd (upd H2 M (DN P w M [])) R (.lst []) = H3 at e23 hR3 hM3
  have hL2 := hL.mono e2
  have hG2 := hG1.mono e2
  refine lv_rcv (hL2.mono e23) (by decide +kernel) (by decide +kernel) ?_
  refine ⟨p, a, tb, l, d, ps, g, n, ds, v, freshS g, rfl, hL2.mono e23, hG2.mono e23, ok, hn, hv.mono e23, fresh_ok ok, fun u H4 e4 hu => ?_⟩
  walk_at "0"
  have inH : ∀ {H : Hp}, Ex H2 H → Ex H2 (dl H M R) := fun {H} e => ex_into (ex_into e hM) hR0
  refine s_cut (fun σ H => ∃ (es : Ens) (now step : V) (st : Stt) (rows : List (List PyData)) (vs : List V), σ = [some (.ref a), some .non, some (.ref p), some now, some (.ref M), some (.ref R), some step] ∧ RI P w g H2 M R H es now st rows vs) ?_ ?_
  rotate_left
  · intro N hN
    refine while_w (fun m σ H => ∃ (es : Ens) (now step : V) (st : Stt) (rows : List (List PyData)) (vs : List V), σ = [some (.ref a), some .non, some (.ref p), some now, some (.ref M), some (.ref R), some step] ∧ RI P w g H2 M R H es now st rows vs ∧ BestV g (dl H M R) step ∧ m = 127 - es.length) 127
      ⟨[], v, u, freshS g, [], [], rfl, ⟨inH (e23.trans e4), e4 _ _ hM3, fun x hx => (by cases hx), fun i x hx => by simp at hx, List.nodup_nil, fun x hx => (by cases hx), e4 _ _ hR3, .nil, fun r hr => (by cases hr), rfl, hv.mono (inH (e23.trans e4)), fresh_ok ok⟩, best_dl hu (e4 _ _ hM3) (e4 _ _ hR3), rfl⟩ ?_
    rintro m σ H5 ⟨es, now, step, st, rows, vs, rfl, I, hb, rfl⟩
    have e25 : Ex H2 H5 := I.ex.trans dl_ex
    have hk5 := I.keys.mono (dl_ex (H := H5) (M := M) (R := R))
    have hn5 := I.now.mono (dl_ex (H := H5) (M := M) (R := R))
    have hle : es.length ≤ 126 := by
      have := met_le ok I.nd I.all
      rwa [List.length_map] at this
    obtain ⟨va, vb, hva, hva1, hva2⟩ := id hn5
    have stop := hN _ _ ⟨es, now, step, st, rows, vs, rfl, I⟩
    walk_at "e"
    rcases hb with rfl | ⟨t, c, sv, st2, rfl, ht, hc, hsv, hok⟩
    · rw [if_neg (fun q => q rfl)]
      exact stop
    · rw [if_pos (fun q => nomatch q)]
      subst hva
      refine ⟨va, M, es, st, rfl, rfl, I.met, hk5, hn5, ?_⟩
      cases hlk : lookS es st with
      | some x =>
        walk_at "e"
        exact stop
      | none =>
        have hin : st ∉ es.map (·.1) := fun q => by
          rw [look_met 0 (fun i x hx => by rw [I.vals i x hx, Nat.zero_add]) q] at hlk
          cases hlk
        walk_at "e"
        refine ⟨_, fun _ _ q => q, ?_⟩
        refine s_lenL I.rws ?_
        refine ⟨M, va, es, st, rfl, rfl, I.met, hk5, hn5, hlk, by omega, ?_⟩
        have hvl : vs.length = es.length := by rw [I.dq.len, List.length_map, I.len]
        rw [hvl]
        have hnd' : ((es ++ [(st, va, V.int ((es.length : Nat) : Int))]).map (·.1)).Nodup := by
          rw [List.map_append, List.nodup_append]
          exact ⟨I.nd, by simp, fun x hx y hy => by
            have : y = st := by simpa using hy
            rw [this]
            exact fun z => hin (by rw [← z]; exact hx)⟩
        have hall' : ∀ s ∈ (es ++ [(st, va, V.int ((es.length : Nat) : Int))]).map (·.1), StOk g s := fun s hs => by
          rw [List.map_append] at hs
          rcases List.mem_append.mp hs with q | q
          · exact I.all s q
          · have : s = st := by simpa using q
            rw [this]
            exact I.ok
        have hle' : es.length + 1 ≤ 126 := by
          have := met_le ok hnd' hall'
          rw [List.length_map, List.length_append] at this
          exact this
        have d56 : dl (upd H5 M (DN P w M (es ++ [(st, va, V.int ((es.length : Nat) : Int))]))) M R = dl H5 M R := by unfold dl; rw [del_upd]
        have hM6 : upd H5 M (DN P w M (es ++ [(st, va, V.int ((es.length : Nat) : Int))])) M = _ := upd_same
        have hR6 : upd H5 M (DN P w M (es ++ [(st, va, V.int ((es.length : Nat) : Int))])) R = some (.lst vs) := by rw [upd_ne nRM]; exact I.rws
        generalize upd H5 M (DN P w M (es ++ [(st, va, V.int ((es.length : Nat) : Int))])) = H6 at d56 hM6 hR6
        have dx6 : Ex (dl H5 M R) H6 := by rw [← d56]; exact dl_ex
        have e26 : Ex H2 H6 := I.ex.trans dx6
        walk_at "e"
        refine s_bm hR6 ?_
        refine s_ixT (dx6 _ _ ht) (v := .int (c : Nat)) rfl ?_
        walk_at "e"
        refine ⟨a, l, d, ps, g, c, rfl, hG2.mono e26, ok, hc, fun q ns H7 hq e7 h7 hnl hfv => ?_⟩
        walk_at "e"
        have hR7 := e7 _ _ hR6
        have hM7 := e7 _ _ hM6
        have nqR : q ≠ R := fun z => by rw [z, hR6] at hq; cases hq
        have nqM : q ≠ M := fun z => by rw [z, hM6] at hq; cases hq
        refine s_apq hR7 (by omega) ?_
        have d78 : dl (upd H7 R (.lst (vs ++ [V.ref q]))) M R = dl H7 M R := by unfold dl; rw [del_comm nRM, del_upd, del_comm nRM.symm]
        have hR8 : upd H7 R (.lst (vs ++ [V.ref q])) R = some (.lst (vs ++ [V.ref q])) := upd_same
        have hM8 : upd H7 R (.lst (vs ++ [V.ref q])) M = _ := (upd_ne nRM.symm).trans hM7
        generalize upd H7 R (.lst (vs ++ [V.ref q])) = H8 at d78 hR8 hM8
        have dd58 : Ex (dl H5 M R) (dl H8 M R) := by rw [d78, ← d56]; exact dl_ex2 e7
        have dx8 : Ex (dl H5 M R) H8 := dd58.trans dl_ex
        have e28 : Ex H2 H8 := I.ex.trans dx8
        refine s_ixT (dx8 _ _ ht) (v := sv) rfl ?_
        walk_at "e"
        refine lv_rcv (hL2.mono e28) (by decide +kernel) (by decide +kernel) ?_
        refine ⟨p, a, tb, l, d, ps, g, n, ds, sv, st2, rfl, hL2.mono e28, hG2.mono e28, ok, hn, hsv.mono dx8, hok, fun u H9 e9 hu => ?_⟩
        walk_at "e"
        have dd59 : Ex (dl H5 M R) (dl H9 M R) := dd58.trans (dl_ex2 e9)
        refine ⟨127 - (es.length + 1), by omega, es ++ [(st, va, V.int ((es.length : Nat) : Int))], sv, u, st2, rows ++ [ns.map PyData.str], vs ++ [V.ref q], rfl, ⟨I.ex.trans dd59, e9 _ _ hM8, ?_, ?_, hnd', hall', e9 _ _ hR8, ?_, ?_, by rw [List.length_append, List.length_append, I.len]; rfl, hsv.mono dd59, hok⟩, best_dl hu (e9 _ _ hM8) (e9 _ _ hR8), by rw [List.length_append]; rfl⟩
        · intro x hx
          rcases List.mem_append.mp hx with z | z
          · exact (I.keys x z).mono dd59
          · have : x = (st, va, V.int ((es.length : Nat) : Int)) := by simpa using z
            rw [this]
            exact I.now.mono dd59
        · intro i x hx
          rcases Nat.lt_or_ge i es.length with z | z
          · rw [List.getElem?_append_left z] at hx
            exact I.vals i x hx
          · rw [List.getElem?_append_right z] at hx
            cases hq : i - es.length with
            | zero =>
              rw [hq] at hx
              cases hx
              have : i = es.length := by omega
              rw [this]
            | succ j =>
              rw [hq] at hx
              simp at hx
        · rw [List.map_append]
          refine (I.dq.mono dd59 _).app (.one ?_)
          have hq8 : dl H8 M R q = some (.lst (ns.map V.str)) := by
            rw [d78]
            unfold dl
            rw [del_ne nqR, del_ne nqM]
            exact h7
          exact .lst (dl_ex2 e9 _ _ hq8) (dq_strs _)
        · intro r hr
          rcases List.mem_append.mp hr with z | z
          · exact I.rok r z
          · have : r = ns.map PyData.str := by simpa using z
            rw [this]
            exact rowD_strs (by omega) hfv
  rintro σ H5 ⟨es, now, step, st, rows, vs, rfl, I⟩
  have e25 : Ex H2 H5 := I.ex.trans dl_ex
  have e05 : Ex H H5 := (e1.trans e2).trans e25
  have hk5 := I.keys.mono (dl_ex (H := H5) (M := M) (R := R))
  have hn5 := I.now.mono (dl_ex (H := H5) (M := M) (R := R))
  have hdq5 := I.dq.mono (dl_ex (H := H5) (M := M) (R := R)) _
  have hle : es.length ≤ 126 := by
    have := met_le ok I.nd I.all
    rwa [List.length_map] at this
  have hvl : vs.length = rows.length := by rw [I.dq.len, List.length_map]
  have hlen := I.len
  obtain ⟨va, vb, rfl, hva1, hva2⟩ := id hn5
  walk_at "e"
  refine ⟨va, M, es, st, rfl, rfl, I.met, hk5, hn5, ?_⟩
  cases hlk : lookS es st with
  | none =>
    walk_at "e"
    refine s_nwTG (by show 2 ≤ 100000; decide) fun t H6 _ e6 h6 => ?_
    exact k t R rows .non H6 (e05.trans e6) h6 (.lst (e6 _ _ I.rws) (hdq5.mono e6 _)) ⟨by omega, I.rok⟩ (by omega) (.inl rfl)
  | some x =>
    have hin : st ∈ es.map (·.1) := Classical.byContradiction fun q => by
      rw [look_none q] at hlk
      cases hlk
    have hl2 := look_met 0 (fun i x hx => by rw [I.vals i x hx, Nat.zero_add]) hin
    rw [Nat.zero_add] at hl2
    have hj : (es.map (·.1)).idxOf st < es.length := by
      have := List.idxOf_lt_length_of_mem hin
      rwa [List.length_map] at this
    generalize (es.map (·.1)).idxOf st = j at hl2 hj
    walk_at "e"
    refine ⟨M, va, es, st, _, rfl, rfl, I.met, hk5, hn5, hl2, ?_⟩
    walk_at "e"
    refine s_slL I.rws fun p1 hp1 => ?_
    have e6 : Ex H5 (upd H5 p1 (.lst (cutV vs none (some ((j : Nat) : Int))))) := Ex.new hp1
    have h61 : upd H5 p1 (.lst (cutV vs none (some ((j : Nat) : Int)))) p1 = _ := upd_same
    generalize upd H5 p1 (.lst (cutV vs none (some ((j : Nat) : Int)))) = H6 at e6 h61
    refine ⟨M, va, es, st, _, rfl, rfl, e6 _ _ I.met, hk5.mono e6, hn5.mono e6, hl2, ?_⟩
    walk_at "e"
    refine s_slL (e6 _ _ I.rws) fun p2 hp2 => ?_
    have e7 : Ex H6 (upd H6 p2 (.lst (cutV vs (some ((j : Nat) : Int)) none))) := Ex.new hp2
    have h72 : upd H6 p2 (.lst (cutV vs (some ((j : Nat) : Int)) none)) p2 = _ := upd_same
    generalize upd H6 p2 (.lst (cutV vs (some ((j : Nat) : Int)) none)) = H7 at e7 h72
    walk_at "e"
    refine s_nwTG (by show 2 ≤ 100000; decide) fun t H8 _ e8 h8 => ?_
    rw [cut_take (by omega)] at h61
    rw [cut_drop (by omega)] at h72
    have e58 := (e6.trans e7).trans e8
    have hd8 := hdq5.mono e58 _
    refine k t p1 (rows.take j) (.ref p2) H8 (e05.trans e58) h8 (.lst ((e7.trans e8) _ _ h61) (by rw [List.map_take]; exact hd8.take j)) ⟨by rw [List.length_take]; omega, fun r hr => I.rok r (List.mem_of_mem_take hr)⟩ (by rw [List.length_take]; omega)
      (.inr ⟨p2, rows.drop j, rfl, .lst (e8 _ _ h72) (by rw [List.map_drop]; exact hd8.drop j), ⟨by rw [List.length_drop]; omega, fun r hr => I.rok r (List.mem_of_mem_drop hr)⟩, by rw [List.length_drop]; omega, by rw [List.length_drop]; omega⟩)
theorem ok_rounds_of_1 (T : Txt K mg) : Df P w K mg base CX0 9 "rounds_of" ["garden", "state"] [V.non] (spRounds K) := let ⟨fd, F⟩ := T.d_rounds_of; mk_dfD (ds := [V.non]) F (fn_rounds_of T F) T.g_rounds_of (F.binds1 1 0 (fun z => nomatch z) rfl (fun _ _ _ _ _ _ _ us its h1 h2 => match us, its, h1, h2 with | [_], [_], _, _ => ⟨_, rfl, rfl⟩))
end
end Tk

set_option maxHeartbeats 4000000
/-! Whether a plan is told right. -/
namespace Tk
open PySem PySem.Spec PyProof.Rows L2 He Evl
local macro_rules | `(tactic| walk_at "e") => `(tactic| (try simp only [a_seq, a_var0, a_varS, a_c, a_asg, a_name, a_set0, a_setS, a_ret, a_retN, a_ifS, a_drop, a_next, a_op, a_un, a_I0, a_I, a_U, a_bT, a_test, a_B, a_and, a_or, a_not, a_andV, a_orV, a_notV, a_if, a_isN, a_notN, a_nil, a_cons, a_CB, a_lst, a_tup, a_dget, a_din, a_dnotin, a_dput, a_newK, a_revL, a_getN, a_putN, a_newN, a_forL, a_forT, a_forR, a_lcL, a_lcR, a_yes, a_w0, a_w1, cx_K, cx_P, cx_w, a_eqI, a_neI, a_eqS, a_neS, a_call, a_callS, a_clsFn, a_meth, a_make, a_fld, a_fldS, a_BM, a_BM0, a_sl, a_noP, a_part, a_intP, a_gTup, a_gNil, a_gCons, a_gSub, a_ipI, a_ipMul, a_aug, a_augS, a_chain, m_and, m_or, a_xp, cxh_K, a_veI, a_ost, a_mkK, a_nn, not_false_eq_true, not_true_eq_false, Option.map_some, Option.map_none, Option.isSome_some, Option.isSome_none, List.map_cons, List.map_nil, true_and, and_true, true_or, or_true, false_and, and_false, false_or, or_false, if_true, if_false, Bool.false_eq_true, decide_eq_true_eq, Bool.not_eq_true, Bool.not_true, Bool.not_false, decide_eq_false_iff_not, Bool.not_eq_eq_eq_not, reduceCtorEq, Bool.true_eq_false, List.cons_append, List.nil_append, List.append_nil]))
local macro_rules | `(tactic| walk_at "1") => `(tactic| ((try simp only [a_var0, a_varS, a_c, a_asg, a_name, a_set0, a_setS, a_ret, a_retN, a_ifS, a_drop, a_next, a_op, a_un, a_I0, a_I, a_U, a_bT, a_test, a_B, a_and, a_or, a_not, a_andV, a_orV, a_notV, a_if, a_isN, a_notN, a_nil, a_cons, a_CB, a_lst, a_tup, a_dget, a_din, a_dnotin, a_dput, a_newK, a_revL, a_getN, a_putN, a_newN, a_forL, a_forT, a_forR, a_lcL, a_lcR, a_yes, a_w0, a_w1, cx_K, cx_P, cx_w, a_eqI, a_neI, a_eqS, a_neS, a_call, a_callS, a_clsFn, a_meth, a_make, a_fld, a_fldS, a_BM, a_BM0, a_sl, a_noP, a_part, a_intP, a_gTup, a_gNil, a_gCons, a_gSub, a_ipI, a_ipMul, a_aug, a_augS, a_chain, m_and, m_or, a_xp, cxh_K, a_veI, a_ost, a_mkK, a_nn, not_false_eq_true, not_true_eq_false, Option.map_some, Option.map_none, Option.isSome_some, Option.isSome_none, List.map_cons, List.map_nil, true_and, and_true, true_or, or_true, false_and, and_false, false_or, or_false, if_true, if_false, Bool.false_eq_true, decide_eq_true_eq, Bool.not_eq_true, Bool.not_true, Bool.not_false, decide_eq_false_iff_not, Bool.not_eq_eq_eq_not, reduceCtorEq, Bool.true_eq_false, List.cons_append, List.nil_append, List.append_nil]); rw [a_seq]; (try simp only [a_var0, a_varS, a_c, a_asg, a_name, a_set0, a_setS, a_ret, a_retN, a_ifS, a_drop, a_next, a_op, a_un, a_I0, a_I, a_U, a_bT, a_test, a_B, a_and, a_or, a_not, a_andV, a_orV, a_notV, a_if, a_isN, a_notN, a_nil, a_cons, a_CB, a_lst, a_tup, a_dget, a_din, a_dnotin, a_dput, a_newK, a_revL, a_getN, a_putN, a_newN, a_forL, a_forT, a_forR, a_lcL, a_lcR, a_yes, a_w0, a_w1, cx_K, cx_P, cx_w, a_eqI, a_neI, a_eqS, a_neS, a_call, a_callS, a_clsFn, a_meth, a_make, a_fld, a_fldS, a_BM, a_BM0, a_sl, a_noP, a_part, a_intP, a_gTup, a_gNil, a_gCons, a_gSub, a_ipI, a_ipMul, a_aug, a_augS, a_chain, m_and, m_or, a_xp, cxh_K, a_veI, a_ost, a_mkK, a_nn, not_false_eq_true, not_true_eq_false, Option.map_some, Option.map_none, Option.isSome_some, Option.isSome_none, List.map_cons, List.map_nil, true_and, and_true, true_or, or_true, false_and, and_false, false_or, or_false, if_true, if_false, Bool.false_eq_true, decide_eq_true_eq, Bool.not_eq_true, Bool.not_true, Bool.not_false, decide_eq_false_iff_not, Bool.not_eq_eq_eq_not, reduceCtorEq, Bool.true_eq_false, List.cons_append, List.nil_append, List.append_nil])))
local macro_rules | `(tactic| walk_at "0") => `(tactic| (try simp only [a_var0, a_varS, a_c, a_asg, a_name, a_set0, a_setS, a_ret, a_retN, a_ifS, a_drop, a_next, a_op, a_un, a_I0, a_I, a_U, a_bT, a_test, a_B, a_and, a_or, a_not, a_andV, a_orV, a_notV, a_if, a_isN, a_notN, a_nil, a_cons, a_CB, a_lst, a_tup, a_dget, a_din, a_dnotin, a_dput, a_newK, a_revL, a_getN, a_putN, a_newN, a_forL, a_forT, a_forR, a_lcL, a_lcR, a_yes, a_w0, a_w1, cx_K, cx_P, cx_w, a_eqI, a_neI, a_eqS, a_neS, a_call, a_callS, a_clsFn, a_meth, a_make, a_fld, a_fldS, a_BM, a_BM0, a_sl, a_noP, a_part, a_intP, a_gTup, a_gNil, a_gCons, a_gSub, a_ipI, a_ipMul, a_aug, a_augS, a_chain, m_and, m_or, a_xp, cxh_K, a_veI, a_ost, a_mkK, a_nn, not_false_eq_true, not_true_eq_false, Option.map_some, Option.map_none, Option.isSome_some, Option.isSome_none, List.map_cons, List.map_nil, true_and, and_true, true_or, or_true, false_and, and_false, false_or, or_false, if_true, if_false, Bool.false_eq_true, decide_eq_true_eq, Bool.not_eq_true, Bool.not_true, Bool.not_false, decide_eq_false_iff_not, Bool.not_eq_eq_eq_not, reduceCtorEq, Bool.true_eq_false, List.cons_append, List.nil_append, List.append_nil]))
section
variable {P : Program} {w : World} {K : PySem.W.Frag} {mg : Str → Option Value} {base : Heap}
theorem tt_len {ts : List Str} (h : ts ≠ []) : (tupleText ts).length ≤ piled ts + 4 := by
  have := join_length_add ts h
  unfold tupleText
  rw [Str.length_append, Str.length_append]
  have h1 : (("(" : Str)).length = 1 := by decide +kernel
  have h2 : ((if (ts.length == 1) = true then ",)" else ")" : String) : Str).length ≤ 2 := by
    split <;> decide +kernel
  omega
structure FxG (P : Program) (w : World) (K : PySem.W.Frag) (mg : Str → Option Value) (base : Heap) (k : Nat) (f : Addr) (ps : List Str) (sp : Sp) : Prop where
  ex : ∃ fd, FnG P w K mg base k f fd ps sp ∧ PySem.W.keepIn K (.ref f) = true ∧ Binds K fd ps []
theorem pe_callGx {X : Cx} {k : Nat} {f : Addr} {ps : List Str} {sp : Sp} {x : Str} {p pos : Pos} {e : Expr} {es : List Expr} {t : TA} (F : FxG X.prog X.w X.K X.mg X.base k f ps sp) (hr : Room k X.A) (hG : X.A.guards = some []) (hg : Gl X x) (hm : X.mg x = some (.ref f)) (ha : PA X (e :: es) t)
    (hdb : (x == ("__debug__" : Str)) = false := by decide) (he : starEach (e :: es) X.env = (false, eval e X.env) :: starEach es X.env := by rfl) (hpl : (backTo pos (starEach es X.env)).any (·.1) = false := by rfl) :
    PE X (.Call (.Name x p) (e :: es) [] pos) (tCall sp [] E0 t) := by
  obtain ⟨fd, O, hk, hb⟩ := F.ex
  exact pe_callG O hr hG hg hm hk hb ha hdb he hpl
/-- the refusal that a suite holds at a (its class cls, its dict d), told -/
def spRefS (K : PySem.W.Frag) (a : Addr) (cls : Value) (d : Option Addr) : Sp := fun vs H Q _ => ∃ D : Addr, cls = .ref D ∧ vs = [.ref a] ∧ (∀ dd, d = some dd → ∃ fs, H dd = some (.xd fs)) ∧
  ((∃ (day : Int) (dd : Addr), D = ga K "BadDay" ∧ d = some dd ∧ H dd = some (.xd [("day", .int day)]) ∧ ∀ (t : Addr) (H' : Hp), Ex H H' → H' t = some (.tup [.str "bad", .int day]) → Q (.ref t) H') ∨
    (D = ga K "NoPot" ∧ ∀ (t : Addr) (H' : Hp), Ex H H' → H' t = some (.tup [.str "none", .int (-1)]) → Q (.ref t) H'))
theorem call_refS {X : Cx} {a : Addr} {oe : Obj} {cls : Value} {d : Option Addr} {pn : List (Addr × Obj)} {q pos : Pos} {e : Expr} {te : TE} (T : Txt X.K X.mg) (F : FxE X.prog X.w X.K X.mg X.base 2 (ga X.K "_law_refusal") ["_law_error"] (spRefusal X.K))
    (hr : L2H.RoomH 2 (X.suite a ((a, oe) :: pn)).A) (hz : Zc cls d oe) (hf : ∃ vs, oe.data = .fields vs) (hg : Gl (X.suite a ((a, oe) :: pn)) "_law_refusal") (ha : PE (X.suite a ((a, oe) :: pn)) e te)
    (he : starEach (e :: []) X.env = (false, eval e X.env) :: starEach [] X.env := by rfl) (hpl : (backTo pos (starEach [] X.env)).any (·.1) = false := by rfl) :
    PE (X.suite a ((a, oe) :: pn)) (.Call (.Name "_law_refusal" q) [e] [] pos) (tCall (spRefS X.K a cls d) [] E0 (tCons te tNil)) := by
  have ha1 : PE (X.suite a ((a, oe) :: pn)) e te := ha
  have base := pe_callX (X := X.suite a ((a, oe) :: pn)) (q := q) (pos := pos) (p := (a, oe)) F hr List.mem_cons_self hg T.g_refusal_L (pa_cons (pe_up ha1) pa_nil he) (by decide) he hpl
  refine pe_imp base fun σ H Q h => ?_
  refine ⟨_, h, fun v H1 hh => ?_⟩
  obtain ⟨D, rfl, hv, hd, hc⟩ := hh
  exact ⟨D, d, hv, ⟨hz, hf, hd⟩, hc⟩
def t_suite (K : PySem.W.Frag) : Addr → Value → Option Addr → TS := fun a cls d => tSeq (tAsg (tCall (spRefS K a cls d) [] E0 (tCons (tVar 7) tNil)) (gName 8)) (tRet (tAndV (tOp (fun x y H Q => y = V.non ∧ Q (V.bl !decide (x = V.non)) H) (tVar 8) (tC .non))
  (tAndV (tOp (rEqD K) (tVar 8) (tIf (tTest (tOp rEq (tOp (rIxT K) (tVar 4) (tC (.int 0))) (tC (.str "bad")))) (tVar 4) (tTup (tCons (tOp (rIxT K) (tVar 4) (tC (.int 0))) (tCons (tUn (rU fun i => .int (-i)) (tC (.int 1))) tNil)))))
    (tOp (rEqD K) (tVar 5) (tLst (tCons (tVar 2) (tCons (tVar 3) tNil)))))))
def handD (lead rows : List (List PyData)) : PyData := .list [.list (lead.map .list), .list (rows.map .list)]
theorem hand_lay {lead rows : List (List PyData)} (h1 : RowsD lead) (h2 : RowsD rows) : (handD lead rows).canLay0 = true ∧ (handD lead rows).depth ≤ 4 := list_lay (n := 3) fun d hd => by
  have h : d = .list (lead.map .list) ∨ d = .list (rows.map .list) := by simpa using hd
  rcases h with rfl | rfl
  · exact rows_lay h1
  · exact rows_lay h2
theorem s_eqSame {H : Hp} {Q : VK} {a b : Addr} {d : PyData} {n : Nat} (h1 : Dq H (.ref a) d) (h2 : Dq H (.ref b) d) (hl : d.canLay0 = true ∧ d.depth ≤ n) (hn : n ≤ 64) (q : Q (.bl true) H) : rEqD K (.ref a) (.ref b) H Q :=
  ⟨d, d, h1.dp, h2.dp, shaped_lay hl hn, shaped_lay hl hn, by rw [SeqAt.eqv_refl d hl.1]; exact q⟩
theorem s_neSame {H : Hp} {Q : VK} {a b : Addr} {d : PyData} {n : Nat} (h1 : Dq H (.ref a) d) (h2 : Dq H (.ref b) d) (hl : d.canLay0 = true ∧ d.depth ≤ n) (hn : n ≤ 64) (q : Q (.bl false) H) : rNeD K (.ref a) (.ref b) H Q :=
  ⟨d, d, h1.dp, h2.dp, shaped_lay hl hn, shaped_lay hl hn, by rw [SeqAt.eqv_refl d hl.1]; exact q⟩
theorem s_strD {H : Hp} {Q : VK} {a : Addr} {d : PyData} (h : Dq H (.ref a) d) (b1 : d.showable = true) (b2 : d.hasDict = false) (b3 : d.depth ≤ 8) (b4 : d.shown.length ≤ 100000) (q : Q (.str d.shown) H) : rStrD K [.ref a] H Q := ⟨a, d, rfl, h.dp, b1, b2, b3, sz_of b4, q⟩
theorem ResV.mono {H H' : Hp} (e : Ex H H') {t : Addr} {r : Res} (h : ResV H t r) : ResV H' t r := by
  cases r with
  | none d => exact e _ _ h
  | bad d => exact e _ _ h
  | dry d n => exact e _ _ h
  | ever k => exact e _ _ h
/-- [list(row) for row in rows] -/
theorem copy_rows {H : Hp} {Q : VK} {la : Addr} {vs : List V} {rows : List (List PyData)} {x0 x1 x2 x3 x4 x5 x6 x7 x8 x9 : Option V} (h : H la = some (.lst vs)) (hd : DqAll H vs (rows.map .list)) (hr : RowsD rows)
    (k : ∀ (D : Addr) (H' : Hp), Ex H H' → Dq H' (.ref D) (.list (rows.map .list)) → Q (.ref D) H') : lcL K (.ref la) (gName 9) tYes (tCB (rListO K) (tCons (tVar 9) tNil)) [9] [x0, x1, x2, x3, x4, x5, x6, x7, x8, x9] H Q := by
  have hl : vs.length = rows.length := by rw [hd.len, List.length_map]
  have hr1 := hr.1
  refine s_lcL h (fun i acc H1 => DqAll H1 acc ((rows.take i).map .list)) .nil ?_ ?_
  · rintro i x acc D H1 hD hx h1 h2 e hq
    obtain ⟨dd, hdd, hdq⟩ := hd.at_ hx
    rw [List.getElem?_map] at hdd
    obtain ⟨row, hrow, rfl⟩ := Option.map_eq_some_iff.mp hdd
    have hi := (List.getElem?_eq_some_iff.mp hrow).1
    cases hdq with
    | lst hxa hxs =>
    rename_i xa xs
    have e1 : Ex H H1 := e.trans ex_del
    walk_at "e"
    refine s_listL (e1 _ _ hxa) fun l hl => ?_
    have nlD : l ≠ D := fun q => by rw [q, h1] at hl; cases hl
    have e4 : Ex H1 (upd H1 l (.lst xs)) := Ex.new hl
    refine lc_y (by omega) h1 h2 e e4 ?_
    rw [take_succ hrow, List.map_append]
    exact (hq.mono (ex_del2 e4) _).app (.one (.lst (by rw [del_ne nlD, upd_same]) (hxs.mono (e.trans (ex_del2 e4)) _)))
  · rintro D H1 acc hD h1 h2 e hq
    rw [hl, List.take_length] at hq
    exact k D H1 (e.trans ex_del) (.lst h1 (hq.mono ex_del _))
theorem log_small {i : Int} (h : 0 ≤ i ∧ i ≤ 10000000) : i.natAbs.log2 < 1920 := by
  by_cases h0 : i.natAbs = 0
  · rw [h0]; decide
  · rw [Nat.log2_lt h0]
    have h1 : i.natAbs < 2 ^ 24 := by omega
    exact Nat.lt_of_lt_of_le h1 (Nat.pow_le_pow_right (by decide) (by decide))
theorem len_small {i : Int} (h : 0 ≤ i ∧ i ≤ 10000000) : (Str.ofString (toString i)).length ≤ 8 := PyProof.Rows.toString_length_le h.1 (by decide) (by omega)
theorem str_ok2 (b : Bool) {i : Int} (h : 0 ≤ i ∧ i ≤ 10000000) : (PyData.tuple [.bool b, .int i]).showable = true ∧ (PyData.tuple [.bool b, .int i]).hasDict = false ∧ (PyData.tuple [.bool b, .int i]).depth ≤ 8 ∧ (PyData.tuple [.bool b, .int i]).shown.length ≤ 100000 := by
  refine ⟨by simp [PyData.showable, PyData.showableAll, log_small h], by simp [PyData.hasDict, PyData.hasDictAll], by simp [PyData.depth, PyData.depthAll], ?_⟩
  have h1 := len_small h
  have h2 : (PyData.bool b).shown.length ≤ 5 := by cases b <;> decide +kernel
  have h3 := tt_len (ts := [(PyData.bool b).shown, Str.ofString (toString i)]) (by simp)
  rw [piled_cons, piled_cons, piled_nil] at h3
  have e : (PyData.tuple [.bool b, .int i]).shown = tupleText [(PyData.bool b).shown, Str.ofString (toString i)] := rfl
  rw [e]
  omega
theorem str_ok3 (b : Bool) {i : Int} {n : Str} (h : 0 ≤ i ∧ i ≤ 10000000) (hn : n ∈ five) : (PyData.tuple [.bool b, .int i, .str n]).showable = true ∧ (PyData.tuple [.bool b, .int i, .str n]).hasDict = false ∧ (PyData.tuple [.bool b, .int i, .str n]).depth ≤ 8 ∧ (PyData.tuple [.bool b, .int i, .str n]).shown.length ≤ 100000 := by
  refine ⟨by simp [PyData.showable, PyData.showableAll, log_small h], by simp [PyData.hasDict, PyData.hasDictAll], by simp [PyData.depth, PyData.depthAll], ?_⟩
  have h1 := len_small h
  have h2 : (PyData.bool b).shown.length ≤ 5 := by cases b <;> decide +kernel
  have h4 : (PyData.str n).shown.length ≤ 20 := (show ∀ n ∈ five, (PyData.str n).shown.length ≤ 20 by decide +kernel) n hn
  have h3 := tt_len (ts := [(PyData.bool b).shown, Str.ofString (toString i), (PyData.str n).shown]) (by simp)
  rw [piled_cons, piled_cons, piled_cons, piled_nil] at h3
  have e : (PyData.tuple [.bool b, .int i, .str n]).shown = tupleText [(PyData.bool b).shown, Str.ofString (toString i), (PyData.str n).shown] := rfl
  rw [e]
  omega
theorem day_dry {g : Gd} (ok : g.Ok) {st : Stt} {row : List PyData} {n : Str} (h : dayM g st row = .dry n) : n ∈ five := by
  unfold dayM at h
  split at h
  · cases h
  · unfold stepM at h
    split at h
    · cases h
    · split at h
      · cases h
      · split at h
        · rename_i j hj
          cases h
          unfold dryM at hj
          have hm := List.mem_of_find?_eq_some hj
          have hl := List.mem_range.mp hm
          unfold nameAt
          rw [List.getD_eq_getElem?_getD, List.getElem?_eq_getElem hl]
          exact ok.nm _ (List.getElem_mem hl)
        · cases h
theorem walk_dry {g : Gd} (ok : g.Ok) : ∀ {rows : List (List PyData)} {st : Stt} {f d : Int} {n : Str}, walkM g rows st f = .dry d n → n ∈ five
  | [], _, _, _, _, h => by cases h
  | row :: rows, st, f, d, n, h => by
    have h : (match dayM g st row with
      | .none => Out.none f
      | .bad => .bad f
      | .dry n => .dry f n
      | .ok st' => walkM g rows st' (f + 1)) = .dry d n := h
    split at h
    · cases h
    · cases h
    · rename_i n' hn'
      cases h
      exact day_dry ok hn'
    · exact walk_dry ok h
theorem rounds_dry {g : Gd} (ok : g.Ok) {rows : List (List PyData)} : ∀ {f : Nat} {met : List Stt} {o : Out} {at_ d : Int} {n : Str}, (∀ d n, o = .dry d n → n ∈ five) → roundsM g rows f met o at_ = some (.dry d n) → n ∈ five
  | 0, _, _, _, _, _, _, h => by cases h
  | f + 1, met, o, at_, d, n, ho, h => by
    cases o with
    | none d => cases h
    | bad d => cases h
    | dry d' n' =>
      cases h
      exact ho _ _ rfl
    | kept st =>
      have h : (if st ∈ met then some (Res.ever ((met.length : Int) - (met.idxOf st : Nat))) else roundsM g rows f (met ++ [st]) (walkM g rows st at_) (at_ + (rows.length : Nat))) = some (.dry d n) := h
      split at h
      · cases h
      · exact rounds_dry ok (fun d n hd => walk_dry ok hd) h
theorem kept_dry {g : Gd} (ok : g.Ok) {lead rows : List (List PyData)} {d : Int} {n : Str} (h : keptM g lead rows = some (.dry d n)) : n ∈ five := by
  unfold keptM at h
  split at h
  · cases h
  · cases h
  · split at h
    · cases h
    · exact rounds_dry ok (fun d n hd => walk_dry ok hd) h
def spRight (K : PySem.W.Frag) : Sp := fun vs H Q _ => ∃ (a l d : Addr) (ps : List V) (g : Gd) (sa sl : Addr) (us : List V) (lv rv : V) (lead rows : List (List PyData)), vs = [.ref a, .ref sa, lv, rv] ∧ GdIn K H a l d ps g ∧ SpIn H sa sl us g ∧ g.Ok ∧
  Dq H lv (.list (lead.map .list)) ∧ RowsD lead ∧ Dq H rv (.list (rows.map .list)) ∧ RowsD rows ∧ ∀ H', Ex H H' → Q (.bl true) H'
theorem sc_right_L : FnScope ["_law_garden_here", "_law_spec_here", "_law_lead", "_law_rows_here", "_law_due_here", "_law_handed", "_law_found", "_law_error", "_law_told_here", "_law_row"] ["_law_garden_here", "_law_spec_here", "_law_lead", "_law_rows_here"] (defScope s_right_L) := ⟨rfl, rfl, rfl, by decide +kernel, rfl, by decide +kernel, by decide +kernel⟩
theorem st_right_L (p0 p1 p2 p3 : V) : start ["_law_garden_here", "_law_spec_here", "_law_lead", "_law_rows_here", "_law_due_here", "_law_handed", "_law_found", "_law_error", "_law_told_here", "_law_row"] [p0, p1, p2, p3] = [some p0, some p1, some p2, some p3, none, none, none, none, none, none] := rfl
theorem fg_right_L (T : Txt K mg) {fd : FuncData} (F : FunD K "_law_right" "_law_right" (defArgs s_right_L) (defBody s_right_L) (defScope s_right_L) [] [] (ga K "_law_right") fd) : FnG P w K mg base 8 (ga K "_law_right") fd ["_law_garden_here", "_law_spec_here", "_law_lead", "_law_rows_here"] (spRight K) := by
  refine okG F (k := 7) sc_right_L (fun vs H Q E h => ?L) (fun cdv A outer s H vs Q E hr hG h => ?B)
  case L => first | (obtain ⟨_, rfl, _⟩ := h; rfl) | (obtain ⟨_, _, rfl, _⟩ := h; rfl) | (obtain ⟨_, _, _, rfl, _⟩ := h; rfl) | (obtain ⟨_, _, _, _, rfl, _⟩ := h; rfl) | (obtain ⟨_, _, _, _, _, rfl, _⟩ := h; rfl) | (obtain ⟨_, _, _, _, _, _, rfl, _⟩ := h; rfl) | (obtain ⟨_, _, _, _, _, _, _, rfl, _⟩ := h; rfl) | (obtain ⟨_, _, _, _, _, _, _, _, rfl, _⟩ := h; rfl) | (obtain ⟨_, _, _, _, _, _, _, _, _, rfl, _⟩ := h; rfl) | (obtain ⟨_, _, _, _, _, _, _, _, _, _, rfl, _⟩ := h; rfl) | (obtain ⟨_, _, _, _, _, _, _, _, _, _, _, rfl, _⟩ := h; rfl) | (obtain ⟨_, _, _, _, _, _, _, _, _, _, _, _, rfl, _⟩ := h; rfl) | (obtain ⟨_, _, _, _, _, _, _, _, _, _, _, _, _, rfl, _⟩ := h; rfl)
  case B =>
  refine ⟨_, PSs.nox ((pss_cons (ps_set (i := 4) sc_right_L.nd rfl (Or.inl rfl) (pe_df (ok_due_L T) (hr.mono (by decide)) rfl pass0 (pa_cons (pv 1) (pa_cons (pv 2) (pa_cons (pv 3) pa_nil)))))
      (pss_cons (ps_set (i := 5) sc_right_L.nd rfl (Or.inl rfl) (pe_lst (pa_cons (pe_lc (own := [("_law_row", 9)]) (g := (gName 9)) (tt := tYes) (te := (tCB (rListO K) (tCons (tVar 9) tNil))) rfl sc_right_L.nd (pi_list (pv 2)) (blkOk_by (own := [("_law_row", 9)]) (N := ["_law_garden_here", "_law_spec_here", "_law_lead", "_law_rows_here", "_law_due_here", "_law_handed", "_law_found", "_law_error", "_law_told_here", "_law_row"]) (sc := defScope s_right_L) (by decide +kernel)) (fun _ _ _ _ _ => (pg_name (i := 9) sc_right_L.nd rfl (Or.inl rfl))) (fun _ _ _ _ _ => pts_nil) (fun _ _ _ _ _ => (pe_callTy call_listO (by rfl) T.f_list (by decide +kernel) (pa_cons (pv 9) pa_nil)))) (pa_cons (pe_lc (own := [("_law_row", 9)]) (g := (gName 9)) (tt := tYes) (te := (tCB (rListO K) (tCons (tVar 9) tNil))) rfl sc_right_L.nd (pi_list (pv 3)) (blkOk_by (own := [("_law_row", 9)]) (N := ["_law_garden_here", "_law_spec_here", "_law_lead", "_law_rows_here", "_law_due_here", "_law_handed", "_law_found", "_law_error", "_law_told_here", "_law_row"]) (sc := defScope s_right_L) (by decide +kernel)) (fun _ _ _ _ _ => (pg_name (i := 9) sc_right_L.nd rfl (Or.inl rfl))) (fun _ _ _ _ _ => pts_nil) (fun _ _ _ _ _ => (pe_callTy call_listO (by rfl) T.f_list (by decide +kernel) (pa_cons (pv 9) pa_nil)))) pa_nil))))
      (pss_cons (ps_try_as (i := 7) (tb := fun W => tAsg (tCallS (spForEver K) (WE W) (tCons (tVar 0) (tCons (tOp (rIxL K) (tVar 5) (tC (.int 0))) (tCons (tOp (rIxL K) (tVar 5) (tC (.int 1))) tNil)))) (gName 6)) (ts := t_suite K) (Wout := fun _ _ _ _ => False) rfl rfl sc_right_L.nd rfl rfl ⟨rfl, by decide, .inl T.g_GardenError⟩ takes0
      (fun W pn xe tk _ => pss_one (ps_set (i := 6) sc_right_L.nd rfl (Or.inl rfl) (pe_dfS (ok_kept_for_ever T) (hr.mono (by decide)) rfl tk (pa_cons (pv 0) (pa_cons (pe_ix ix_list (pv 5) pe_int (fun _ _ => rfl)) (pa_cons (pe_ix ix_list (pv 5) pe_int (fun _ _ => rfl)) pa_nil))))))
      (fun a oe cls d pn hz hf => pss_cons (ps_set (i := 8) sc_right_L.nd rfl (Or.inl rfl) (call_refS T (xe_refusal_L T) (roomH (hr.mono (by decide)) _) hz hf rfl (pv 7))) (pss_one (ps_ret (pe_and (pe_cmpR op_notN (pv 8) pe_non (nomark _)) (pe_and (pe_cmpR (op_eqD (by have q := hu_64 hr; exact q)) (pv 8) (pe_ifExp (pt_cmpR op_eq (pe_ix ix_tup (pv 4) pe_int (fun _ _ => rfl)) pe_str (nomark _)) (pv 4) (pe_tup (pa_cons (pe_ix ix_tup (pv 4) pe_int (fun _ _ => rfl)) (pa_cons (pe_un un_neg pe_int) pa_nil)))) (nomark _)) (pe_one (pe_cmpR (op_eqD (by have q := hu_64 hr; exact q)) (pv 5) (pe_lst (pa_cons (pv 2) (pa_cons (pv 3) pa_nil))) (nomark _)))))))))
      (pss_cons (ps_if (PW.pt (pw_or (pt_cmpR (op_neD (hu_64 hr)) (pv 5) (pe_lst (pa_cons (pv 2) (pa_cons (pv 3) pa_nil))) (nomark _)) (pw_or (pt_not (pt_val (pe_callB call_isi (by rfl) T.f_isinstance (by decide +kernel) (pa_cons (pv 6) (pa_cons (pe_bltn (v := .ty "tuple") (u := .type "tuple") (by rfl) T.f_tuple (by decide +kernel) rfl) pa_nil))))) (pw_or1 (pt_not (pt_val (pe_callB call_isi (by rfl) T.f_isinstance (by decide +kernel) (pa_cons (pe_ix ix_tup (pv 6) pe_int (fun _ _ => rfl)) (pa_cons (pe_bltn (v := .ty "bool") (u := .type "bool") (by rfl) T.f_bool (by decide +kernel) rfl) pa_nil))))))))) (pss_one (ps_ret pe_bl))
      pss_nil)
      (pss_cons (ps_if (pt_cmpR op_eq (pe_ix ix_tup (pv 4) pe_int (fun _ _ => rfl)) pe_str (nomark _)) (pss_one (ps_ret (pe_cmpR op_eq (pe_callTy (call_strD hr hG) (by rfl) T.f_str (by decide +kernel) (pa_cons (pv 6) pa_nil)) (pe_callTy (call_strD hr hG) (by rfl) T.f_str (by decide +kernel) (pa_cons (pe_tup (pa_cons pe_bl (pa_cons (pe_ix ix_tup (pv 4) pe_int (fun _ _ => rfl)) pa_nil))) pa_nil)) (nomark _))))
      pss_nil)
      (pss_one (ps_ret (pe_and (pe_cmpR op_eq (pe_ix ix_tup (pv 4) pe_int (fun _ _ => rfl)) pe_str (nomark _)) (pe_one (pe_cmpR op_eq (pe_callTy (call_strD hr hG) (by rfl) T.f_str (by decide +kernel) (pa_cons (pv 6) pa_nil)) (pe_callTy (call_strD hr hG) (by rfl) T.f_str (by decide +kernel) (pa_cons (pe_tup (pa_cons pe_bl (pa_cons (pe_ix ix_tup (pv 4) pe_int (fun _ _ => rfl)) (pa_cons (pe_ix ix_tup (pv 4) pe_int (fun _ _ => rfl)) pa_nil)))) pa_nil)) (nomark _)))))))))))), ?_⟩
  obtain ⟨a, l, d, ps, g, sa, sl, us, lv, rv, lead, rows, rfl, hG1, hS, ok, hlv, hlead, hrv, hrows, k⟩ := h
  rw [st_right_L]
  walk_at "1"
  obtain ⟨r, hk, hsm⟩ := kept_some ok hlead.1 hrows.1
  refine ⟨sa, sl, us, g, lv, rv, lead, rows, r, rfl, hS, ok, hlv, hlead, hrv, hrows, hk, fun t H1 e1 ht => ?_⟩
  cases hlv with
  | lst hla hlall =>
  rename_i la lvs
  cases hrv with
  | lst hra hrall =>
  rename_i ra rvs
  walk_at "1"
  refine copy_rows (e1 _ _ hla) (hlall.mono e1 _) hlead fun h1 H2 e2 dq1 => ?_
  have e02 := e1.trans e2
  refine copy_rows (e02 _ _ hra) (hrall.mono e02 _) hrows fun h2 H3 e3 dq2 => ?_
  refine s_nwG (by show 2 ≤ 100000; decide) fun hd H4 _ e4 h4 => ?_
  have dqh : Dq H4 (.ref hd) (handD lead rows) := .lst h4 (.cons (dq1.mono (e3.trans e4) _) (.one (dq2.mono e4 _)))
  have e04 := (e02.trans e3).trans e4
  have hlay := hand_lay hlead hrows
  have ht4 := ht.mono ((e2.trans e3).trans e4)
  have same : ∀ {H : Hp}, Ex H4 H → ∀ {z : Addr}, H z = some (.lst [V.ref la, V.ref ra]) → Dq H (.ref z) (handD lead rows) := fun {H} e {z} hz => .lst hz (.cons (.lst ((e04.trans e) _ _ hla) (hlall.mono (e04.trans e) _)) (.one (.lst ((e04.trans e) _ _ hra) (hrall.mono (e04.trans e) _))))
  clear hlall hrall
  walk_at "1"
  refine s_ixL h4 (v := .ref h1) rfl ?_
  walk_at "0"
  refine s_ixL h4 (v := .ref h2) rfl ?_
  walk_at "0"
  have n1 : ¬ (("none" : Str) = "bad") := by decide +kernel
  have n2 : ¬ (("dry" : Str) = "ever") := by decide +kernel
  refine ⟨a, l, d, ps, g, .ref h1, .ref h2, lead, rows, r, rfl, hG1.mono e04, ok, dq1.mono (e3.trans e4) _, hlead, dq2.mono e4 _, hrows, hk, ?_⟩
  have l2 : ∀ (s : Str) (i : Int), PyData.strOk s = true → (PyData.tuple [.str s, .int i]).canLay0 = true ∧ (PyData.tuple [.str s, .int i]).depth ≤ 1 := fun s i hs => tup_lay (n := 0) fun e he => by
    have h : e = .str s ∨ e = .int i := by simpa using he
    rcases h with rfl | rfl
    · exact ⟨by simp [PyData.canLay0, hs], by simp [PyData.depth]⟩
    · exact ⟨by simp [PyData.canLay0], by simp [PyData.depth]⟩
  cases r with
  | none dy =>
    intro H5 e5
    refine ⟨true, T.e_NoPot, fun _ ae hae => ?_, fun q => nomatch q⟩
    have h0 : H5 t = some (.tup [.str "none", .int dy]) := e5 _ _ ht4
    unfold t_suite
    walk_at "e"
    refine ⟨_, rfl, rfl, (fun dd q => nomatch q), .inr ⟨rfl, fun t2 H6 e6 h6 => ?_⟩⟩
    walk_at "e"
    refine s_ixT (e6 _ _ h0) (v := .str "none") rfl ?_
    walk_at "e"
    rw [if_neg n1]
    refine s_ixT (e6 _ _ h0) (v := .str "none") rfl ?_
    walk_at "e"
    refine s_nwTG (by show 2 ≤ 100000; decide) fun t3 H7 _ e7 h7 => ?_
    refine s_eqSame (d := .tuple [.str "none", .int (-1)]) (.tup (e7 _ _ h6) (.cons (.str _) (.one (.int _)))) (.tup h7 (.cons (.str _) (.one (.int _)))) (l2 _ _ (by decide +kernel)) (by decide) ?_
    walk_at "e"
    refine s_nwG (by show 2 ≤ 100000; decide) fun z H8 _ e8 h8 => ?_
    have e58 := ((e5.trans e6).trans e7).trans e8
    refine s_eqSame (dqh.mono e58 _) (same e58 h8) hlay (by decide) ?_
    exact k H8 (e04.trans e58)
  | bad dy =>
    intro H5 dd e5 hdd
    refine ⟨true, T.e_BadDay, fun _ ae hae => ?_, fun q => nomatch q⟩
    have h0 : H5 t = some (.tup [.str "bad", .int dy]) := e5 _ _ ht4
    unfold t_suite
    walk_at "e"
    refine ⟨_, rfl, rfl, fun d2 q => ⟨_, by cases q; exact hdd⟩, .inl ⟨dy, dd, rfl, rfl, hdd, fun t2 H6 e6 h6 => ?_⟩⟩
    walk_at "e"
    refine s_ixT (e6 _ _ h0) (v := .str "bad") rfl ?_
    walk_at "e"
    first | rw [if_pos rfl] | skip
    refine s_eqSame (d := .tuple [.str "bad", .int dy]) (.tup h6 (.cons (.str _) (.one (.int _)))) (.tup (e6 _ _ h0) (.cons (.str _) (.one (.int _)))) (l2 _ _ (by decide +kernel)) (by decide) ?_
    walk_at "e"
    refine s_nwG (by show 2 ≤ 100000; decide) fun z H8 _ e8 h8 => ?_
    have e58 := (e5.trans e6).trans e8
    refine s_eqSame (dqh.mono e58 _) (same e58 h8) hlay (by decide) ?_
    exact k H8 (e04.trans e58)
  | dry dy n =>
    intro t2 H5 e5 h5
    have h0 : H5 t = some (.tup [.str "dry", .int dy, .str n]) := e5 _ _ ht4
    obtain ⟨b1, b2, b3, b4⟩ := str_ok3 false hsm (kept_dry ok hk)
    walk_at "e"
    refine s_nwG (by show 2 ≤ 100000; decide) fun z H6 _ e6 h6 => ?_
    have e46 := e5.trans e6
    refine s_neSame (dqh.mono e46 _) (same e46 h6) hlay (by decide) ?_
    walk_at "e"
    refine s_isiT (e6 _ _ h5) (b := true) (by decide +kernel) (bT_of ?_)
    walk_at "e"
    refine s_ixT (e6 _ _ h5) (v := .bl false) rfl (s_isiB (b := true) (by decide +kernel) (bT_of ?_))
    walk_at "e"
    refine s_ixT (e6 _ _ h0) (v := .str "dry") rfl ?_
    walk_at "e"
    rw [if_neg n2]
    refine s_ixT (e6 _ _ h0) (v := .str "dry") rfl ?_
    walk_at "e"
    first | rw [if_pos rfl] | skip
    refine s_strD (d := .tuple [.bool false, .int dy, .str n]) (.tup (e6 _ _ h5) (.cons (.bl _) (.cons (.int _) (.one (.str _))))) b1 b2 b3 b4 ?_
    walk_at "e"
    refine s_ixT (e6 _ _ h0) (v := .int dy) rfl ?_
    walk_at "e"
    refine s_ixT (e6 _ _ h0) (v := .str n) rfl ?_
    refine s_nwTG (by show 3 ≤ 100000; decide) fun t3 H7 _ e7 h7 => ?_
    refine s_strD (d := .tuple [.bool false, .int dy, .str n]) (.tup h7 (.cons (.bl _) (.cons (.int _) (.one (.str _))))) b1 b2 b3 b4 ?_
    rw [a_eqS, decide_eq_true rfl]
    exact k H7 ((e04.trans e46).trans e7)
  | ever m =>
    intro t2 H5 e5 h5
    have h0 : H5 t = some (.tup [.str "ever", .int m]) := e5 _ _ ht4
    obtain ⟨b1, b2, b3, b4⟩ := str_ok2 true hsm
    walk_at "e"
    refine s_nwG (by show 2 ≤ 100000; decide) fun z H6 _ e6 h6 => ?_
    have e46 := e5.trans e6
    refine s_neSame (dqh.mono e46 _) (same e46 h6) hlay (by decide) ?_
    walk_at "e"
    refine s_isiT (e6 _ _ h5) (b := true) (by decide +kernel) (bT_of ?_)
    walk_at "e"
    refine s_ixT (e6 _ _ h5) (v := .bl true) rfl (s_isiB (b := true) (by decide +kernel) (bT_of ?_))
    walk_at "e"
    refine s_ixT (e6 _ _ h0) (v := .str "ever") rfl ?_
    walk_at "e"
    first | rw [if_pos rfl] | skip
    refine s_strD (d := .tuple [.bool true, .int m]) (.tup (e6 _ _ h5) (.cons (.bl _) (.one (.int _)))) b1 b2 b3 b4 ?_
    walk_at "e"
    refine s_ixT (e6 _ _ h0) (v := .int m) rfl ?_
    walk_at "e"
    refine s_nwTG (by show 2 ≤ 100000; decide) fun t3 H7 _ e7 h7 => ?_
    refine s_strD (d := .tuple [.bool true, .int m]) (.tup h7 (.cons (.bl _) (.one (.int _)))) b1 b2 b3 b4 ?_
    rw [a_eqS, decide_eq_true rfl]
    exact k H7 ((e04.trans e46).trans e7)
theorem xg_right_L (T : Txt K mg) : FxG P w K mg base 8 (ga K "_law_right") ["_law_garden_here", "_law_spec_here", "_law_lead", "_law_rows_here"] (spRight K) := let ⟨fd, F⟩ := T.d_right_L; ⟨fd, fg_right_L T F, F.kp, F.bindsN fun _ _ _ _ _ _ us hl => match us, hl with | [_, _, _, _], _ => rfl⟩
end
end Tk

set_option maxHeartbeats 4000000
/-! The law. -/
namespace Tk
open PySem PySem.Spec PyProof.Rows L2 He Evl
local macro_rules | `(tactic| walk_at "e") => `(tactic| (try simp only [a_seq, a_var0, a_varS, a_c, a_asg, a_name, a_set0, a_setS, a_ret, a_retN, a_ifS, a_drop, a_next, a_op, a_un, a_I0, a_I, a_U, a_bT, a_test, a_B, a_and, a_or, a_not, a_andV, a_orV, a_notV, a_if, a_isN, a_notN, a_nil, a_cons, a_CB, a_lst, a_tup, a_dget, a_din, a_dnotin, a_dput, a_newK, a_revL, a_getN, a_putN, a_newN, a_forL, a_forT, a_forR, a_lcL, a_lcR, a_yes, a_w0, a_w1, cx_K, cx_P, cx_w, a_eqI, a_neI, a_eqS, a_neS, a_call, a_callS, a_clsFn, a_meth, a_make, a_fld, a_fldS, a_BM, a_BM0, a_sl, a_noP, a_part, a_intP, a_gTup, a_gNil, a_gCons, a_gSub, a_ipI, a_ipMul, a_aug, a_augS, a_chain, m_and, m_or, a_xp, cxh_K, a_veI, a_ost, a_mkK, a_nn, not_false_eq_true, not_true_eq_false, Option.map_some, Option.map_none, Option.isSome_some, Option.isSome_none, List.map_cons, List.map_nil, true_and, and_true, true_or, or_true, false_and, and_false, false_or, or_false, if_true, if_false, Bool.false_eq_true, decide_eq_true_eq, Bool.not_eq_true, Bool.not_true, Bool.not_false, decide_eq_false_iff_not, Bool.not_eq_eq_eq_not, reduceCtorEq, Bool.true_eq_false, List.cons_append, List.nil_append, List.append_nil]))
local macro_rules | `(tactic| walk_at "1") => `(tactic| ((try simp only [a_var0, a_varS, a_c, a_asg, a_name, a_set0, a_setS, a_ret, a_retN, a_ifS, a_drop, a_next, a_op, a_un, a_I0, a_I, a_U, a_bT, a_test, a_B, a_and, a_or, a_not, a_andV, a_orV, a_notV, a_if, a_isN, a_notN, a_nil, a_cons, a_CB, a_lst, a_tup, a_dget, a_din, a_dnotin, a_dput, a_newK, a_revL, a_getN, a_putN, a_newN, a_forL, a_forT, a_forR, a_lcL, a_lcR, a_yes, a_w0, a_w1, cx_K, cx_P, cx_w, a_eqI, a_neI, a_eqS, a_neS, a_call, a_callS, a_clsFn, a_meth, a_make, a_fld, a_fldS, a_BM, a_BM0, a_sl, a_noP, a_part, a_intP, a_gTup, a_gNil, a_gCons, a_gSub, a_ipI, a_ipMul, a_aug, a_augS, a_chain, m_and, m_or, a_xp, cxh_K, a_veI, a_ost, a_mkK, a_nn, not_false_eq_true, not_true_eq_false, Option.map_some, Option.map_none, Option.isSome_some, Option.isSome_none, List.map_cons, List.map_nil, true_and, and_true, true_or, or_true, false_and, and_false, false_or, or_false, if_true, if_false, Bool.false_eq_true, decide_eq_true_eq, Bool.not_eq_true, Bool.not_true, Bool.not_false, decide_eq_false_iff_not, Bool.not_eq_eq_eq_not, reduceCtorEq, Bool.true_eq_false, List.cons_append, List.nil_append, List.append_nil]); rw [a_seq]; (try simp only [a_var0, a_varS, a_c, a_asg, a_name, a_set0, a_setS, a_ret, a_retN, a_ifS, a_drop, a_next, a_op, a_un, a_I0, a_I, a_U, a_bT, a_test, a_B, a_and, a_or, a_not, a_andV, a_orV, a_notV, a_if, a_isN, a_notN, a_nil, a_cons, a_CB, a_lst, a_tup, a_dget, a_din, a_dnotin, a_dput, a_newK, a_revL, a_getN, a_putN, a_newN, a_forL, a_forT, a_forR, a_lcL, a_lcR, a_yes, a_w0, a_w1, cx_K, cx_P, cx_w, a_eqI, a_neI, a_eqS, a_neS, a_call, a_callS, a_clsFn, a_meth, a_make, a_fld, a_fldS, a_BM, a_BM0, a_sl, a_noP, a_part, a_intP, a_gTup, a_gNil, a_gCons, a_gSub, a_ipI, a_ipMul, a_aug, a_augS, a_chain, m_and, m_or, a_xp, cxh_K, a_veI, a_ost, a_mkK, a_nn, not_false_eq_true, not_true_eq_false, Option.map_some, Option.map_none, Option.isSome_some, Option.isSome_none, List.map_cons, List.map_nil, true_and, and_true, true_or, or_true, false_and, and_false, false_or, or_false, if_true, if_false, Bool.false_eq_true, decide_eq_true_eq, Bool.not_eq_true, Bool.not_true, Bool.not_false, decide_eq_false_iff_not, Bool.not_eq_eq_eq_not, reduceCtorEq, Bool.true_eq_false, List.cons_append, List.nil_append, List.append_nil])))
local macro_rules | `(tactic| walk_at "0") => `(tactic| (try simp only [a_var0, a_varS, a_c, a_asg, a_name, a_set0, a_setS, a_ret, a_retN, a_ifS, a_drop, a_next, a_op, a_un, a_I0, a_I, a_U, a_bT, a_test, a_B, a_and, a_or, a_not, a_andV, a_orV, a_notV, a_if, a_isN, a_notN, a_nil, a_cons, a_CB, a_lst, a_tup, a_dget, a_din, a_dnotin, a_dput, a_newK, a_revL, a_getN, a_putN, a_newN, a_forL, a_forT, a_forR, a_lcL, a_lcR, a_yes, a_w0, a_w1, cx_K, cx_P, cx_w, a_eqI, a_neI, a_eqS, a_neS, a_call, a_callS, a_clsFn, a_meth, a_make, a_fld, a_fldS, a_BM, a_BM0, a_sl, a_noP, a_part, a_intP, a_gTup, a_gNil, a_gCons, a_gSub, a_ipI, a_ipMul, a_aug, a_augS, a_chain, m_and, m_or, a_xp, cxh_K, a_veI, a_ost, a_mkK, a_nn, not_false_eq_true, not_true_eq_false, Option.map_some, Option.map_none, Option.isSome_some, Option.isSome_none, List.map_cons, List.map_nil, true_and, and_true, true_or, or_true, false_and, and_false, false_or, or_false, if_true, if_false, Bool.false_eq_true, decide_eq_true_eq, Bool.not_eq_true, Bool.not_true, Bool.not_false, decide_eq_false_iff_not, Bool.not_eq_eq_eq_not, reduceCtorEq, Bool.true_eq_false, List.cons_append, List.nil_append, List.append_nil]))
section
variable {P : Program} {w : World} {K : PySem.W.Frag} {mg : Str → Option Value} {base : Heap}
def RL (H : Hp) (p : Addr) (rows : List (List PyData)) (n : Nat) : Prop := Dq H (.ref p) (.list (rows.map .list)) ∧ (∀ r ∈ rows, RowD r) ∧ rows.length ≤ n
theorem RL.mono {H H' : Hp} (e : Ex H H') {p : Addr} {rows : List (List PyData)} {n : Nat} (h : RL H p rows n) : RL H' p rows n := ⟨h.1.mono e _, h.2.1, h.2.2⟩
theorem RL.rows {H : Hp} {p : Addr} {rows : List (List PyData)} {n : Nat} (h : RL H p rows n) (hn : n ≤ 10000) : RowsD rows := ⟨Nat.le_trans h.2.2 hn, h.2.1⟩
section
variable {H : Hp} {Q : VK} {p p2 : Addr} {rows rows2 : List (List PyData)} {n m : Nat} {lo hi : Option Int}
theorem s_slD (h : RL H p rows n) (q : ∀ (r : Addr) (rows' : List (List PyData)) (H' : Hp), Ex H H' → RL H' r rows' n → Q (.ref r) H') : rSlL K (.ref p) lo hi H Q := by
  obtain ⟨h1, h2, h3⟩ := h
  cases h1 with
  | lst ha hs =>
  rename_i vs
  refine s_slL ha fun r hr => ?_
  have e : Ex H (upd H r (.lst (cutV vs lo hi))) := Ex.new hr
  have hd : DqAll H (cutV vs lo hi) (((rows.drop (HT.sIx vs.length 0 lo)).take (HT.sIx vs.length vs.length hi - HT.sIx vs.length 0 lo)).map .list) := by
    unfold cutV
    rw [List.map_take, List.map_drop]
    exact (hs.drop _).take _
  exact q r _ _ e ⟨.lst upd_same (hd.mono e _), fun x hx => h2 x (List.mem_of_mem_drop (List.mem_of_mem_take hx)), by rw [List.length_take, List.length_drop]; omega⟩
theorem s_catD (h : RL H p rows n) (h' : RL H p2 rows2 m) (hn : n + m ≤ 10000) (q : ∀ (r : Addr) (rows' : List (List PyData)) (H' : Hp), Ex H H' → RL H' r rows' (n + m) → Q (.ref r) H') : rCat (.ref p) (.ref p2) H Q := by
  obtain ⟨h1, h2, h3⟩ := h
  obtain ⟨k1, k2, k3⟩ := h'
  cases h1 with
  | lst ha hs =>
  cases k1 with
  | lst kb ks =>
  rename_i vs us
  have l1 : vs.length = rows.length := by rw [hs.len, List.length_map]
  have l2 : us.length = rows2.length := by rw [ks.len, List.length_map]
  refine s_cat ha kb (by omega) fun r hr => ?_
  have e : Ex H (upd H r (.lst (vs ++ us))) := Ex.new hr
  refine q r (rows ++ rows2) _ e ⟨.lst upd_same ?_, fun x hx => ?_, by rw [List.length_append]; omega⟩
  · rw [List.map_append]
    exact (hs.mono e _).app (ks.mono e _)
  · rcases List.mem_append.mp hx with z | z
    · exact h2 x z
    · exact k2 x z
theorem s_nilD (q : ∀ (r : Addr) (H' : Hp), Ex H H' → RL H' r [] 0 → Q (.ref r) H') : nwL [] H Q := s_nwG (Nat.zero_le _) fun r H' _ e h => q r H' e ⟨.lst h .nil, fun x hx => (by cases hx), Nat.le_refl _⟩
theorem s_lenD {H : Hp} {Q : VK} {p : Addr} {rows : List (List PyData)} {n : Nat} (h : RL H p rows n) (q : Q (.int ((rows.length : Nat))) H) : rLenQ K [.ref p] H Q := by
  obtain ⟨h1, h2, h3⟩ := h
  cases h1 with
  | lst ha hs =>
  refine s_lenL ha ?_
  have l1 := hs.len
  rw [List.length_map] at l1
  rw [l1]
  exact q
end
theorem fold_mono : ∀ {ps : List Pt} {a b : Int}, 0 ≤ a → a ≤ b → (∀ p ∈ ps, 0 ≤ p.gap) → ps.foldl (fun b p => b * p.gap) a ≤ ps.foldl (fun b p => b * p.gap) b
  | [], _, _, _, h, _ => h
  | p :: ps, a, b, h0, h, hg => by
    show ps.foldl (fun b p => b * p.gap) (a * p.gap) ≤ ps.foldl (fun b p => b * p.gap) (b * p.gap)
    exact fold_mono (ps := ps) (Int.mul_nonneg h0 (hg p List.mem_cons_self)) (Int.mul_le_mul_of_nonneg_right h (hg p List.mem_cons_self)) fun q hq => hg q (List.mem_cons_of_mem _ hq)
def plainG (g : Gd) : Gd := ⟨g.pots, g.cans, 1, 0⟩
theorem plain_ok {g : Gd} (ok : g.Ok) : (plainG g).Ok := ⟨ok.n1, ok.n3, ok.nd, ok.nm, ok.gap, ok.rest, ok.c0, ⟨by show (1 : Int) ≤ 1; decide, by show (1 : Int) ≤ 14; decide⟩, ⟨Int.le_refl _, by show (0 : Int) < 2 ^ (1 : Int).toNat; decide⟩,
  Int.le_trans (fold_mono (ps := g.pots) (a := 1) (b := g.week) (by decide) ok.w0.1 fun p hp => by have := (ok.gap p hp).1; omega) ok.size⟩
def spLaw (K : PySem.W.Frag) : Sp := fun vs H Q _ => ∃ (a : Addr) (ns : List Int), vs = [.ref a] ∧ SqL K H a (ns.map V.int) ∧ ∀ H', Q (.bl true) H'
theorem sc_law : FnScope ["_law_script", "_law_spec_here", "_law_garden_here", "_law_many", "_law_rows_here", "_law_plain", "_law_at", "_law_lead", "_law_again"] ["_law_script"] (defScope s_law) := ⟨rfl, rfl, rfl, by decide +kernel, rfl, by decide +kernel, by decide +kernel⟩
theorem st_law (p0 : V) : start ["_law_script", "_law_spec_here", "_law_garden_here", "_law_many", "_law_rows_here", "_law_plain", "_law_at", "_law_lead", "_law_again"] [p0] = [some p0, none, none, none, none, none, none, none, none] := rfl
theorem fg_law (T : Txt K mg) {fd : FuncData} (F : FunD K "law" "law" (defArgs s_law) (defBody s_law) (defScope s_law) [] [] (ga K "law") fd) : FnG P w K mg base 10 (ga K "law") fd ["_law_script"] (spLaw K) := by
  refine okG F (k := 9) sc_law (fun vs H Q E h => ?L) (fun cdv A outer s H vs Q E hr hG h => ?B)
  case L => first | (obtain ⟨_, rfl, _⟩ := h; rfl) | (obtain ⟨_, _, rfl, _⟩ := h; rfl) | (obtain ⟨_, _, _, rfl, _⟩ := h; rfl) | (obtain ⟨_, _, _, _, rfl, _⟩ := h; rfl) | (obtain ⟨_, _, _, _, _, rfl, _⟩ := h; rfl) | (obtain ⟨_, _, _, _, _, _, rfl, _⟩ := h; rfl) | (obtain ⟨_, _, _, _, _, _, _, rfl, _⟩ := h; rfl) | (obtain ⟨_, _, _, _, _, _, _, _, rfl, _⟩ := h; rfl) | (obtain ⟨_, _, _, _, _, _, _, _, _, rfl, _⟩ := h; rfl) | (obtain ⟨_, _, _, _, _, _, _, _, _, _, rfl, _⟩ := h; rfl) | (obtain ⟨_, _, _, _, _, _, _, _, _, _, _, rfl, _⟩ := h; rfl) | (obtain ⟨_, _, _, _, _, _, _, _, _, _, _, _, rfl, _⟩ := h; rfl) | (obtain ⟨_, _, _, _, _, _, _, _, _, _, _, _, _, rfl, _⟩ := h; rfl)
  case B =>
  refine ⟨_, PSs.nox ((pss_cons (ps_set (i := 1) sc_law.nd rfl (Or.inl rfl) (pe_df (ok_spec_L T) (hr.mono (by decide)) rfl pass0 (pa_cons (pv 0) (pa_cons pe_int pa_nil))))
      (pss_cons (ps_set (i := 2) sc_law.nd rfl (Or.inl rfl) (pe_df (ok_garden_L T) (hr.mono (by decide)) rfl pass0 (pa_cons (pv 1) pa_nil)))
      (pss_cons (ps_set (i := 3) sc_law.nd rfl (Or.inl rfl) (pe_op op_mod (pe_df (ok_cell_at_L T) (hr.mono (by decide)) rfl pass0 (pa_cons (pv 0) (pa_cons pe_int pa_nil))) pe_int))
      (pss_cons (ps_set (i := 4) sc_law.nd rfl (Or.inl rfl) (pe_df (ok_rows_L T) (hr.mono (by decide)) rfl pass0 (pa_cons (pv 1) (pa_cons (pv 0) (pa_cons pe_int (pa_cons (pe_op op_add (pv 3) (pe_op op_mod (pe_op op_fdiv (pe_df (ok_cell_at_L T) (hr.mono (by decide)) rfl pass0 (pa_cons (pv 0) (pa_cons pe_int pa_nil))) pe_int) pe_int)) (pa_cons (pe_cmpR op_eq (pe_op op_mod (pe_df (ok_cell_at_L T) (hr.mono (by decide)) rfl pass0 (pa_cons (pv 0) (pa_cons pe_int pa_nil))) pe_int) pe_int (nomark _)) pa_nil)))))))
      (pss_cons (ps_if (PW.pt (pw_or (pt_not (pt_val (pe_callGx (xg_right_L T) (hr.mono (by decide)) hG rfl T.g_right_L (pa_cons (pv 2) (pa_cons (pv 1) (pa_cons (pe_slice sl_list (pv 4) po_none (po_some (pv 3))) (pa_cons (pe_slice sl_list (pv 4) (po_some (pv 3)) po_none) pa_nil))))))) (pw_or1 (pt_not (pt_val (pe_callGx (xg_right_L T) (hr.mono (by decide)) hG rfl T.g_right_L (pa_cons (pv 2) (pa_cons (pv 1) (pa_cons (pe_lst pa_nil) (pa_cons (pv 4) pa_nil)))))))))) (pss_one (ps_ret pe_bl))
      pss_nil)
      (pss_cons (ps_set (i := 5) sc_law.nd rfl (Or.inl rfl) (pe_df (ok_rounds_of_1 T) (hr.mono (by decide)) rfl pass0 (pa_cons (pe_df (ok_garden_L T) (hr.mono (by decide)) rfl pass0 (pa_cons (pe_tup (pa_cons (pe_ix ix_tup (pv 1) pe_int (fun _ _ => rfl)) (pa_cons (pe_ix ix_tup (pv 1) pe_int (fun _ _ => rfl)) (pa_cons pe_int (pa_cons pe_int pa_nil))))) pa_nil)) pa_nil)))
      (pss_cons (ps_if (pt_cmpR op_notN (pe_ix ix_tup (pv 5) pe_int (fun _ _ => rfl)) pe_non (nomark _)) (pss_cons (ps_set (i := 6) sc_law.nd rfl (Or.inl rfl) (pe_op op_mod (pe_df (ok_cell_at_L T) (hr.mono (by decide)) rfl pass0 (pa_cons (pv 0) (pa_cons pe_int pa_nil))) (pe_callB call_lenQ (by rfl) T.f_len (by decide +kernel) (pa_cons (pe_ix ix_tup (pv 5) pe_int (fun _ _ => rfl)) pa_nil))))
      (pss_cons (ps_if (pt_not (pt_val (pe_callGx (xg_right_L T) (hr.mono (by decide)) hG rfl T.g_right_L (pa_cons (pv 2) (pa_cons (pv 1) (pa_cons (pe_ix ix_tup (pv 5) pe_int (fun _ _ => rfl)) (pa_cons (pe_ix ix_tup (pv 5) pe_int (fun _ _ => rfl)) pa_nil))))))) (pss_one (ps_ret pe_bl))
      pss_nil)
      (pss_one (ps_if (pt_not (pt_val (pe_callGx (xg_right_L T) (hr.mono (by decide)) hG rfl T.g_right_L (pa_cons (pv 2) (pa_cons (pv 1) (pa_cons (pe_lst pa_nil) (pa_cons (pe_op op_cat (pe_slice sl_list (pe_ix ix_tup (pv 5) pe_int (fun _ _ => rfl)) (po_some (pv 6)) po_none) (pe_slice sl_list (pe_ix ix_tup (pv 5) pe_int (fun _ _ => rfl)) po_none (po_some (pv 6)))) pa_nil))))))) (pss_one (ps_ret pe_bl))
      pss_nil))))
      pss_nil)
      (pss_cons (ps_asg (pe_df (ok_rounds_of_1 T) (hr.mono (by decide)) rfl pass0 (pa_cons (pv 2) pa_nil)) (pg_tup rfl (pgs_cons (pg_name (i := 7) sc_law.nd rfl (Or.inl rfl)) (pgs_cons (pg_name (i := 8) sc_law.nd rfl (Or.inl rfl)) pgs_nil))))
      (pss_cons (ps_if (pt_cmpR op_isN (pv 8) pe_non (nomark _)) (pss_one (ps_ret (pe_callGx (xg_right_L T) (hr.mono (by decide)) hG rfl T.g_right_L (pa_cons (pv 2) (pa_cons (pv 1) (pa_cons (pv 7) (pa_cons (pv 4) pa_nil)))))))
      pss_nil)
      (pss_cons (ps_set (i := 6) sc_law.nd rfl (Or.inl rfl) (pe_op op_mod (pe_df (ok_cell_at_L T) (hr.mono (by decide)) rfl pass0 (pa_cons (pv 0) (pa_cons pe_int pa_nil))) (pe_callB call_lenQ (by rfl) T.f_len (by decide +kernel) (pa_cons (pv 8) pa_nil))))
      (pss_cons (ps_if (pt_not (pt_val (pe_callGx (xg_right_L T) (hr.mono (by decide)) hG rfl T.g_right_L (pa_cons (pv 2) (pa_cons (pv 1) (pa_cons (pv 7) (pa_cons (pv 8) pa_nil))))))) (pss_one (ps_ret pe_bl))
      pss_nil)
      (pss_cons (ps_if (pt_not (pt_val (pe_callGx (xg_right_L T) (hr.mono (by decide)) hG rfl T.g_right_L (pa_cons (pv 2) (pa_cons (pv 1) (pa_cons (pe_op op_cat (pv 7) (pe_slice sl_list (pv 8) po_none (po_some (pv 6)))) (pa_cons (pe_op op_cat (pe_slice sl_list (pv 8) (po_some (pv 6)) po_none) (pe_slice sl_list (pv 8) po_none (po_some (pv 6)))) pa_nil))))))) (pss_one (ps_ret pe_bl))
      pss_nil)
      (pss_one (ps_ret (pe_callGx (xg_right_L T) (hr.mono (by decide)) hG rfl T.g_right_L (pa_cons (pv 2) (pa_cons (pv 1) (pa_cons (pv 7) (pa_cons (pe_op op_cat (pe_slice sl_list (pv 8) po_none (po_some (pv 6))) (pe_slice sl_list (pv 8) (po_some (pe_op op_add (pv 6) pe_int)) po_none)) pa_nil)))))))))))))))))))), ?_⟩
  obtain ⟨sc, ns, rfl, hsc, k⟩ := h
  rw [st_law]
  walk_at "1"
  refine ⟨sc, ns, 0, rfl, hsc, fun sa sl us g H1 e1 ok hS => ?_⟩
  have hn3 := ok.n3
  walk_at "1"
  refine ⟨sa, sl, us, g, rfl, hS, ok, fun a l d ps H2 e2 hG1 => ?_⟩
  have e02 := e1.trans e2
  walk_at "1"
  refine ⟨sc, ns, 3, rfl, ex_l e02 hsc, fun z => ?_⟩
  walk_at "0"
  refine ⟨by decide, ?_⟩
  obtain ⟨m, hm⟩ : ∃ m : Nat, z % 6 = (m : Nat) := ⟨(z % 6).toNat, by have := Int.emod_nonneg z (b := 6) (by decide); omega⟩
  have hm5 : m ≤ 5 := by have := Int.emod_lt_of_pos z (b := 6) (by decide); omega
  rw [hm]
  walk_at "1"
  refine ⟨sc, ns, 3, rfl, ex_l e02 hsc, fun z2 => ?_⟩
  walk_at "0"
  refine ⟨⟨by decide, by decide⟩, by decide, ?_⟩
  refine ⟨sc, ns, 3, rfl, ex_l e02 hsc, fun z3 => ?_⟩
  walk_at "0"
  refine ⟨by decide, ?_⟩
  obtain ⟨m2, hm2⟩ : ∃ m2 : Nat, z2 / 6 % 6 = (m2 : Nat) := ⟨(z2 / 6 % 6).toNat, by have := Int.emod_nonneg (z2 / 6) (b := 6) (by decide); omega⟩
  have hm25 : m2 ≤ 5 := by have := Int.emod_lt_of_pos (z2 / 6) (b := 6) (by decide); omega
  rw [hm2]
  refine ⟨sa, sl, us, g, sc, ns, 4, m + m2, _, rfl, hS.mono e2, ok, ex_l e02 hsc, by omega, fun rp rows H3 e3 hrd hrr hrl => ?_⟩
  have e23 := e3
  have R0 : RL H3 rp rows 1000 := ⟨hrd, hrr.2, hrl⟩
  have hG3 := hG1.mono e3
  have hS3 := hS.mono (e2.trans e3)
  have hsc3 := ex_l (e02.trans e3) hsc
  walk_at "1"
  have rcall : ∀ {H4 : Hp} {Q : VK} {E : XK} {p1 p2 : Addr} {r1 r2 : List (List PyData)} {n1 n2 : Nat}, Ex H3 H4 → RL H4 p1 r1 n1 → RL H4 p2 r2 n2 → n1 ≤ 10000 → n2 ≤ 10000 → (∀ H5, Ex H4 H5 → Q (.bl true) H5) → spRight K [V.ref a, V.ref sa, V.ref p1, V.ref p2] H4 Q E :=
    fun {H4 Q E p1 p2 r1 r2 n1 n2} e h1 h2 l1 l2 q => ⟨a, l, d, ps, g, sa, sl, us, .ref p1, .ref p2, r1, r2, rfl, hG3.mono e, hS3.mono e, ok, h1.1, h1.rows l1, h2.1, h2.rows l2, q⟩
  refine s_slD R0 fun q1 w1 H4 f4 R1 => ?_
  refine s_slD (R0.mono f4) fun q2 w2 H5 f5 R2 => ?_
  have e35 := f4.trans f5
  refine rcall e35 (R1.mono f5) R2 (by decide) (by decide) fun H6 f6 => ?_
  walk_at "0"
  refine s_nilD fun q3 H7 f7 R3 => ?_
  have e37 := (e35.trans f6).trans f7
  refine rcall e37 R3 (R0.mono e37) (by decide) (by decide) fun H8 f8 => ?_
  have e38 := e37.trans f8
  walk_at "1"
  -- the garden's own rounds with a week of one day
  have i0 : atI [V.ref sl, V.int g.cans, V.int g.week, V.int g.closed] 0 = some (.ref sl) := rfl
  have i1 : atI [V.ref sl, V.int g.cans, V.int g.week, V.int g.closed] 1 = some (.int g.cans) := rfl
  have hS8 := hS3.mono e38
  refine s_ixT hS8.tup i0 ?_
  walk_at "0"
  refine s_ixT hS8.tup i1 ?_
  refine s_nwTG (by show 4 ≤ 100000; decide) fun pt H9 _ f9 h9 => ?_
  have hS9 := hS8.mono f9
  refine ⟨pt, sl, us, plainG g, rfl, ⟨h9, hS9.lst, hS9.each⟩, plain_ok ok, fun pa pl pd pps H10 f10 hGp => ?_⟩
  walk_at "0"
  refine ⟨pa, pl, pd, pps, plainG g, rfl, hGp, plain_ok ok, fun tp p1 r1 v2 H11 f11 htp hd1 hr1 hl1 hv2 => ?_⟩
  have e311 := ((e38.trans f9).trans f10).trans f11
  have R4 : RL H11 p1 r1 200 := ⟨hd1, hr1.2, hl1⟩
  have j0 : atI [V.ref p1, v2] 0 = some (.ref p1) := rfl
  have j1 : atI [V.ref p1, v2] 1 = some v2 := rfl
  walk_at "0"
  refine s_cut (fun σ H12 => ∃ v6, σ = [some (.ref sc), some (.ref sa), some (.ref a), some (.int (m : Nat)), some (.ref rp), some (.ref tp), v6, none, none] ∧ Ex H11 H12) ?_ ?_
  rotate_left
  · intro N hN
    walk_at "e"
    refine s_ixT htp j1 ?_
    walk_at "e"
    rcases hv2 with rfl | ⟨p2, r2, rfl, hd2, hr2, hl2, hpos⟩
    · rw [if_neg (fun q => q rfl)]
      exact hN _ _ ⟨none, rfl, Ex.refl _⟩
    · have R5 : RL H11 p2 r2 200 := ⟨hd2, hr2.2, hl2⟩
      rw [if_pos (fun q => nomatch q)]
      refine ⟨sc, ns, 5, rfl, ex_l e311 hsc3, fun z5 => ?_⟩
      walk_at "e"
      refine s_ixT htp j1 (s_lenD R5 ?_)
      walk_at "e"
      refine ⟨by omega, ?_⟩
      generalize z5 % ((r2.length : Nat) : Int) = at5
      refine s_ixT htp j0 ?_
      walk_at "e"
      refine s_ixT htp j1 ?_
      refine rcall e311 R4 R5 (by decide) (by decide) fun H12 f12 => ?_
      walk_at "e"
      refine s_nilD fun q4 H13 f13 R6 => ?_
      have e1113 := f12.trans f13
      walk_at "e"
      refine s_ixT (e1113 _ _ htp) j1 ?_
      walk_at "e"
      refine s_slD (R5.mono e1113) fun q5 w5 H14 f14 R7 => ?_
      walk_at "e"
      refine s_ixT (f14 _ _ (e1113 _ _ htp)) j1 ?_
      walk_at "e"
      refine s_slD (R5.mono (e1113.trans f14)) fun q6 w6 H15 f15 R8 => ?_
      refine s_catD (R7.mono f15) R8 (by decide) fun q7 w7 H16 f16 R9 => ?_
      have e1116 := ((e1113.trans f14).trans f15).trans f16
      refine rcall (e311.trans e1116) (R6.mono ((f14.trans f15).trans f16)) R9 (by decide) (by decide) fun H17 f17 => ?_
      walk_at "e"
      exact hN _ _ ⟨_, rfl, e1116.trans f17⟩
  rintro σ H12 ⟨v6, rfl, f12⟩
  have e312 := e311.trans f12
  walk_at "1"
  refine ⟨a, l, d, ps, g, rfl, hG3.mono e312, ok, fun tq p3 r3 v4 H13 f13 htq hd3 hr3 hl3 hv4 => ?_⟩
  have e313 := e312.trans f13
  have R10 : RL H13 p3 r3 200 := ⟨hd3, hr3.2, hl3⟩
  walk_at "0"
  refine s_tupG htq rfl ?_
  walk_at "0"
  rcases hv4 with rfl | ⟨p4, r4, rfl, hd4, hr4, hl4, hpos⟩
  · walk_at "e"
    exact rcall e313 R10 (R0.mono e313) (by decide) (by decide) fun H14 f14 => k H14
  · have R11 : RL H13 p4 r4 200 := ⟨hd4, hr4.2, hl4⟩
    walk_at "e"
    refine ⟨sc, ns, 4, rfl, ex_l e313 hsc3, fun z4 => ?_⟩
    walk_at "e"
    refine s_lenD R11 ?_
    walk_at "e"
    refine ⟨by omega, ?_⟩
    generalize z4 % ((r4.length : Nat) : Int) = at4
    refine rcall e313 R10 R11 (by decide) (by decide) fun H14 f14 => ?_
    walk_at "e"
    refine s_slD (R11.mono f14) fun q5 w5 H15 f15 R12 => ?_
    refine s_catD (R10.mono (f14.trans f15)) R12 (by decide) fun q6 w6 H16 f16 R13 => ?_
    have g1 := (f14.trans f15).trans f16
    walk_at "e"
    refine s_slD (R11.mono g1) fun q7 w7 H17 f17 R14 => ?_
    walk_at "e"
    refine s_slD (R11.mono (g1.trans f17)) fun q8 w8 H18 f18 R15 => ?_
    refine s_catD (R14.mono f18) R15 (by decide) fun q9 w9 H19 f19 R16 => ?_
    have g2 := ((g1.trans f17).trans f18).trans f19
    refine rcall (e313.trans g2) (R13.mono ((f17.trans f18).trans f19)) R16 (by decide) (by decide) fun H20 f20 => ?_
    have g3 := g2.trans f20
    walk_at "e"
    refine s_slD (R11.mono g3) fun q10 w10 H21 f21 R17 => ?_
    walk_at "e"
    refine s_slD (R11.mono (g3.trans f21)) fun q11 w11 H22 f22 R18 => ?_
    refine s_catD (R17.mono f22) R18 (by decide) fun q12 w12 H23 f23 R19 => ?_
    have g4 := ((g3.trans f21).trans f22).trans f23
    exact rcall (e313.trans g4) (R10.mono g4) R19 (by decide) (by decide) fun H24 f24 => k H24
theorem xg_law (T : Txt K mg) : FxG P w K mg base 10 (ga K "law") ["_law_script"] (spLaw K) := let ⟨fd, F⟩ := T.d_law; ⟨fd, fg_law T F, F.kp, F.bindsN fun _ _ _ _ _ _ us hl => match us, hl with | [_], _ => rfl⟩
end
end Tk

set_option maxHeartbeats 4000000
set_option maxHeartbeats 0
/-! The end: the head's facts and the law's walk together. -/
namespace Tk
open PySem PySem.Spec PyProof.Rows L2 He Evl
theorem facts_law {P : Program} {w : World} {K : PySem.W.Frag} {h : Heap} {mg : Str → Option Value} {f : Addr} (X : K.In h) (G : h.Ns mainGlobals mg) (hfa : mg ("law" : Str) = some (.ref f)) (c : Says K) :
    ∃ fd : FuncData, (∀ (s : Shared) (v : Value), BindsTo s fd ⟨[v], []⟩ [("_law_script", v)]) ∧ ∀ base : Heap, K.In base → base.Ns mainGlobals mg → FnG P w K mg base 10 f fd ["_law_script"] (spLaw K) := by
  have T : Txt K mg := ⟨⟨h, X, G⟩, c.d, c.ex⟩
  obtain ⟨fd, F⟩ := T.d_law
  have e := hfa.symm.trans T.g_law
  cases e
  have b := FunD.bindsA (ps := ["_law_script"]) F fun _ _ _ _ _ _ us hl => match us, hl with | [_], _ => rfl
  exact ⟨fd, fun s v => b s [v] rfl, fun base _ _ => fg_law T F⟩
end Tk
open PySem PySem.W PySem.Calls PyProof.Rows
theorem PySem.Challenge.cw_thirstwise_k07_whole_rounds_kept_holds : PySem.Challenge.rw_thirstwise_k07_whole_rounds_kept.Holds := by
  w_on; o_law
  refine HandSHeadRun.head_any (r := OpenLaw.row PySem.Challenge.rw_thirstwise_k07_whole_rounds_kept) (q := view (OpenLaw.row PySem.Challenge.rw_thirstwise_k07_whole_rounds_kept).prog [55]) (H := Tk.hk) (ob := Tk.ob) (M := 30000) (loose := Tk.names) (d := HandSHeadRun.topDef (OpenLaw.row PySem.Challenge.rw_thirstwise_k07_whole_rounds_kept).prog 55) (kwd := []) Tk.ob_eq
    (by kernel_rfl) (fun s => by kernel_rfl) Tk.run (by kernel_rfl) (by kernel_rfl) (by kernel_rfl) (by rfl) (by first | assumption | decide +kernel) (by decide +kernel) ⟨rfl, rfl, rfl, rfl, rfl, by decide +kernel⟩ ?hw ?hc
  case hw => w_witness2
  case hc =>
    refine Tk.walk_ofG (l := PySem.Challenge.rw_thirstwise_k07_whole_rounds_kept) (n := 63) (k := 10) (x := "_law_script") rfl (by decide) (by kernel_rfl) ⟨rfl, by decide, by decide⟩ ?F
    intro w mg fa h Y G hmg0
    obtain ⟨K, KX, c⟩ := Y
    have hmg : mg ("law" : PySem.Str) = some (.ref fa) := by
      have e : (HandSHeadRun.topDef (OpenLaw.row PySem.Challenge.rw_thirstwise_k07_whole_rounds_kept).prog 55).name = ("law" : PySem.Str) := by kernel_rfl
      rw [← e]
      exact hmg0
    obtain ⟨fd, hb, hF⟩ := Tk.facts_law (P := (PySem.Challenge.rw_thirstwise_k07_whole_rounds_kept).prog) (w := w) KX G hmg c
    exact ⟨K, fd, Tk.spLaw K, KX, hb, fun H a ns hl _ hS => ⟨a, ns, rfl, hS, fun _ => rfl⟩, hF⟩
