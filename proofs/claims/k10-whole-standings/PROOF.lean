import PyProof.Rows.All
import Wide.All
import OpenK.AllK
import Wide.FinOn
import HandS.ForMost
import HandS.IsInst
import HandS.TupAny
import HandS.TupMul
import HandS.SetFor
import HandS.Defaults
import HandS.Codes
import HandS.Exc
import HandS.ExcOwn
import HandS.ExcIs
import HandS.ExcField
import HandS.WordsExc
import HandS.ExcValue
import HandS.Flow
import HandS.Style
import KE.KRevSl
import HandS.Small
import HandS.HeadEnd
import HandS.Head0
import HandS.Head1
import HandS.Head2
import HandS.HeadHook1
import HandS.HeadHook2
import KE.KStateDown
import Lean
import HandS.More
import PySem.Challenge.RW_setpoints_k10_whole_standings
set_option Elab.async false
set_option linter.all false
set_option maxRecDepth 100000
set_option maxHeartbeats 0
namespace PySem
namespace OverX
open PySem.W PySem.Calls PyProof.Rows PySem.HandSPX
def iA (p1 p2 : Pos) : Arguments := { posonlyargs := [], args := [{ arg := "self", annotation := none, pos := p1 }, { arg := "at", annotation := none, pos := p2 }], vararg := none, kwonlyargs := [], kw_defaults := [], kwarg := none, defaults := [] }
def iB (q1 q2 q3 q4 : Pos) : List Stmt := [.Assign [.Attribute (.Name "self" q1) "at" q2] (.Name "at" q3) q4]
def iS : Scope := { kind := .function, names := [(PySem.Str.ofString "self", .local), (PySem.Str.ofString "at", .local)], isGenerator := false, isCoroutine := false, more := [] }
end OverX
end PySem
namespace Ev
open PySem PySem.Spec PyProof.Rows L2
def exc0 : List Str := ["BadForm", "BadSide", "BadRow", "NotOver", "BadTree", "NoGift", "NoPoint", "Full", "Stuck", "Nothing", "BadNumber", "BadShare", "BadText", "BadName", "NoName", "NoMatch"]
def excSub (c' c : Str) : Bool := decide (c = c') || (decide (c = "ScoreError") || decide (c = "ValueError"))
def cA (K : PySem.W.Frag) (c : Str) : Addr := match PySem.W.nsIn K mainGlobals c with
  | some (some (.ref a)) => a
  | _ => 0
def excCB (K : PySem.W.Frag) (D : Addr) : Bool := decide (PySem.W.findIn K (.ref D) "__getattribute__" = some (some (.builtin "BaseException.__getattribute__"))) && (decide (PySem.W.findIn K (.ref D) "__getattr__" = some none) && (decide (PySem.W.subIn K (.ref D) (.type "BaseException") = some true) && (PySem.W.hasDictIn K D && (decide (PySem.W.findIn K (.ref D) "__class__" = some (some (.builtin "object.__class__"))) && (decide (PySem.W.specialIn K (.builtin "object.__class__") "__get__" = some (some (.builtin "getset_descriptor.__get__"))) && (decide (PySem.W.takesIn K (.builtin "object.__class__") = some true) && decide (PySem.W.mroIn K D (.type "object") = some true)))))))
def nsB (K : PySem.W.Frag) (c : Str) : Bool := decide (PySem.W.nsIn K mainGlobals c = some (some (.ref (cA K c))))
def clsB (K : PySem.W.Frag) (c : Str) : Bool := nsB K c && (excCB K (cA K c) && (decide (PySem.W.exmOne K (.ref (cA K c)) (.ref (cA K "ScoreError")) = some true) && (((("ScoreError" : Str) :: "Over" :: exc0).all fun c' => decide (PySem.W.kitOne K (.ref (cA K c)) (.ref (cA K c')) = some (excSub c c'))) && decide (PySem.W.kitOne K (.ref (cA K c)) (.type "ValueError") = some true))))
def mkB (K : PySem.W.Frag) (c : Str) : Bool := PySem.W.excIn K (cA K c) PySem.HandSPX.veTail "ValueError.__new__" && (PySem.W.keepIn K (.ref (cA K c)) && (decide (PySem.W.subIn K (.ref (cA K c)) (.type "BaseException") = some true) && decide (PySem.W.typeIn K (.ref (cA K c)) = some (.type "type"))))
def oclsB (K : PySem.W.Frag) (C : Addr) : Bool := match K.lookup C with
  | some ⟨.type "type", _, .cls cd, sl⟩ => (match cd.mro, sl.toList with
    | .ref C' :: bm, [_, _, _, _, some (.builtin n), _] => decide (C' = C) && (decide (n = "ValueError.__new__") && (!cd.hasDel && (PySem.HandSPX.refsVE bm && cd.hasDict)))
    | _, _ => false)
  | _ => false
def initA (K : PySem.W.Frag) : Addr := match PySem.W.findIn K (.ref (cA K "Over")) "__init__" with
  | some (some (.ref a)) => a
  | _ => 0
def overB (K : PySem.W.Frag) : Bool := oclsB K (cA K "Over") && (decide (PySem.W.findIn K (.ref (cA K "Over")) "__setattr__" = some (some (.builtin "object.__setattr__"))) && (decide (PySem.W.findIn K (.ref (cA K "Over")) "at" = some none) && (decide (PySem.W.findIn K (.ref (cA K "Over")) "__init__" = some (some (.ref (initA K)))) && (decide (PySem.W.typeIn K (.ref (initA K)) = some (.type "function")) && (PySem.W.keepIn K (.ref (cA K "Over")) && (decide (PySem.W.typeIn K (.ref (cA K "Over")) = some (.type "type")) && decide (PySem.W.exmOne K (.ref (cA K "Over")) (.ref (cA K "Over")) = some true)))))))
def exAllB (K : PySem.W.Frag) : Bool := nsB K "ScoreError" && (((("Over" : Str) :: exc0).all fun c => clsB K c) && ((exc0.all fun c => mkB K c) && overB K))
/-! ### the head's facts, with tables of the top -/
abbrev AlX : Type := He.AlD × Bool
def obsX (fa : List He.Fa) (fn : List He.DefD) (ex : PySem.W.Frag → Bool) (K : PySem.W.Frag) : AlX := (He.obsD fa fn K, ex K)
def obsXG (n : Nat) (fa : List He.Fa) (fn : List He.DefD) (ex : PySem.W.Frag → Bool) (g : Addr → Option Obj) : AlX := obsX fa fn ex (He.frG g (He.asD g n))
def SaysX (fa : List He.Fa) (fn : List He.DefD) (ex : PySem.W.Frag → Bool) (K : PySem.W.Frag) : Prop := obsX fa fn ex K = (He.valD fn, true)
def hookX (n : Nat) (fa : List He.Fa) (fn : List He.DefD) (ex : PySem.W.Frag → Bool) : PySem.W.Hook where
  α := AlX
  obs := fun s => obsXG n fa fn ex s.heap.get?
  val := fun _ => (He.valD fn, true)
  says := fun _ h => ∃ K : PySem.W.Frag, K.In h ∧ SaysX fa fn ex K
  of := fun _ _ e => ⟨_, He.frG_in, e⟩
  keeps := fun _ _ _ ⟨K, hK, c⟩ k => ⟨K, PySem.W.Frag.In.keeps hK k, c⟩
theorem obsXG_eq {n : Nat} {fa : List He.Fa} {fn : List He.DefD} {ex : PySem.W.Frag → Bool} {g : Addr → Option Obj} {s : Shared} (h : ∀ a, g a = s.heap.get? a) : obsXG n fa fn ex g = (hookX n fa fn ex).obs s := by
  have e : g = s.heap.get? := funext h
  rw [e] <;> rfl
theorem SaysX.d {fa : List He.Fa} {fn : List He.DefD} {ex : PySem.W.Frag → Bool} {K : PySem.W.Frag} (c : SaysX fa fn ex K) : He.SaysD fa fn K := congrArg (fun z : AlX => z.1) c
theorem SaysX.x {fa : List He.Fa} {fn : List He.DefD} {ex : PySem.W.Frag → Bool} {K : PySem.W.Frag} (c : SaysX fa fn ex K) : ex K = true := congrArg (fun z : AlX => z.2) c
def s_TURNS : Str := ⟨#[84, 85, 82, 78, 83]⟩
def s_MOST_LEAD : Str := ⟨#[77, 79, 83, 84, 95, 76, 69, 65, 68]⟩
def s_MOST_GOAL : Str := ⟨#[77, 79, 83, 84, 95, 71, 79, 65, 76]⟩
def s_SERIES : Str := ⟨#[83, 69, 82, 73, 69, 83]⟩
def s_series : Str := ⟨#[115, 101, 114, 105, 101, 115]⟩
def s_tied : Str := ⟨#[116, 105, 101, 100]⟩
def s_race : Str := ⟨#[114, 97, 99, 101]⟩
def s_point : Str := ⟨#[112, 111, 105, 110, 116]⟩
def s_MOST_SIZE : Str := ⟨#[77, 79, 83, 84, 95, 83, 73, 90, 69]⟩
def s_MOST_DEEP : Str := ⟨#[77, 79, 83, 84, 95, 68, 69, 69, 80]⟩
def s_MOST_POINTS : Str := ⟨#[77, 79, 83, 84, 95, 80, 79, 73, 78, 84, 83]⟩
def s_pairs : Str := ⟨#[112, 97, 105, 114, 115]⟩
def s_twos : Str := ⟨#[116, 119, 111, 115]⟩
def s_each : Str := ⟨#[101, 97, 99, 104]⟩
def s_keep : Str := ⟨#[107, 101, 101, 112]⟩
def s_on : Str := ⟨#[111, 110]⟩
def s_winner : Str := ⟨#[119, 105, 110, 110, 101, 114]⟩
def s_over : Str := ⟨#[111, 118, 101, 114]⟩
def s_match : Str := ⟨#[109, 97, 116, 99, 104]⟩
def s_no_name : Str := ⟨#[110, 111, 32, 110, 97, 109, 101]⟩
def s_name : Str := ⟨#[110, 97, 109, 101]⟩
def s_text : Str := ⟨#[116, 101, 120, 116]⟩
def s_refused : Str := ⟨#[114, 101, 102, 117, 115, 101, 100]⟩
def s_share : Str := ⟨#[115, 104, 97, 114, 101]⟩
def s_number : Str := ⟨#[110, 117, 109, 98, 101, 114]⟩
def s_nothing : Str := ⟨#[110, 111, 116, 104, 105, 110, 103]⟩
def s_stuck : Str := ⟨#[115, 116, 117, 99, 107]⟩
def s_full : Str := ⟨#[102, 117, 108, 108]⟩
def s_gift : Str := ⟨#[103, 105, 102, 116]⟩
def s_tree : Str := ⟨#[116, 114, 101, 101]⟩
def s_not_over : Str := ⟨#[110, 111, 116, 32, 111, 118, 101, 114]⟩
def s_row : Str := ⟨#[114, 111, 119]⟩
def s_side : Str := ⟨#[115, 105, 100, 101]⟩
def s_form : Str := ⟨#[102, 111, 114, 109]⟩
def s_wrong : Str := ⟨#[119, 114, 111, 110, 103]⟩
def s_ok : Str := ⟨#[111, 107]⟩
def s_server : Str := ⟨#[115, 101, 114, 118, 101, 114]⟩
def s_tail : Str := ⟨#[116, 97, 105, 108]⟩
def s_who : Str := ⟨#[119, 104, 111]⟩
def s_end : Str := ⟨#[101, 110, 100]⟩
def s_found : Str := ⟨#[102, 111, 117, 110, 100]⟩
def f_is_number : Str := ⟨#[105, 115, 95, 110, 117, 109, 98, 101, 114]⟩
def f_is_turn : Str := ⟨#[105, 115, 95, 116, 117, 114, 110]⟩
def f_is_race : Str := ⟨#[105, 115, 95, 114, 97, 99, 101]⟩
def f_is_tied : Str := ⟨#[105, 115, 95, 116, 105, 101, 100]⟩
def f_is_series : Str := ⟨#[105, 115, 95, 115, 101, 114, 105, 101, 115]⟩
def f_is_shape : Str := ⟨#[105, 115, 95, 115, 104, 97, 112, 101]⟩
def f_parts : Str := ⟨#[112, 97, 114, 116, 115]⟩
def f_size_of : Str := ⟨#[115, 105, 122, 101, 95, 111, 102]⟩
def f_is_form : Str := ⟨#[105, 115, 95, 102, 111, 114, 109]⟩
def f_look_form : Str := ⟨#[108, 111, 111, 107, 95, 102, 111, 114, 109]⟩
def f_look_side : Str := ⟨#[108, 111, 111, 107, 95, 115, 105, 100, 101]⟩
def f_look_row : Str := ⟨#[108, 111, 111, 107, 95, 114, 111, 119]⟩
def f_inner_at : Str := ⟨#[105, 110, 110, 101, 114, 95, 97, 116]⟩
def f_begun : Str := ⟨#[98, 101, 103, 117, 110]⟩
def f_won_by : Str := ⟨#[119, 111, 110, 95, 98, 121]⟩
def f_served : Str := ⟨#[115, 101, 114, 118, 101, 100]⟩
def f_decided : Str := ⟨#[100, 101, 99, 105, 100, 101, 100]⟩
def f_behind : Str := ⟨#[98, 101, 104, 105, 110, 100]⟩
def f_lifted : Str := ⟨#[108, 105, 102, 116, 101, 100]⟩
def f_pushed : Str := ⟨#[112, 117, 115, 104, 101, 100]⟩
def f_pairs : Str := ⟨#[112, 97, 105, 114, 115]⟩
def f_server_of : Str := ⟨#[115, 101, 114, 118, 101, 114, 95, 111, 102]⟩
def f_winner_of : Str := ⟨#[119, 105, 110, 110, 101, 114, 95, 111, 102]⟩
def f_played : Str := ⟨#[112, 108, 97, 121, 101, 100]⟩
def f_state_of : Str := ⟨#[115, 116, 97, 116, 101, 95, 111, 102]⟩
def f_standing : Str := ⟨#[115, 116, 97, 110, 100, 105, 110, 103]⟩
def f_winner : Str := ⟨#[119, 105, 110, 110, 101, 114]⟩
def f_server : Str := ⟨#[115, 101, 114, 118, 101, 114]⟩
def f__law_cell : Str := ⟨#[95, 108, 97, 119, 95, 99, 101, 108, 108]⟩
def f__law_mix : Str := ⟨#[95, 108, 97, 119, 95, 109, 105, 120]⟩
def f__law_draw : Str := ⟨#[95, 108, 97, 119, 95, 100, 114, 97, 119]⟩
def f__law_pick : Str := ⟨#[95, 108, 97, 119, 95, 112, 105, 99, 107]⟩
def f__law_refusal : Str := ⟨#[95, 108, 97, 119, 95, 114, 101, 102, 117, 115, 97, 108]⟩
def f__law_turn : Str := ⟨#[95, 108, 97, 119, 95, 116, 117, 114, 110]⟩
def f__law_form : Str := ⟨#[95, 108, 97, 119, 95, 102, 111, 114, 109]⟩
def f__law_size : Str := ⟨#[95, 108, 97, 119, 95, 115, 105, 122, 101]⟩
def f__law_sized : Str := ⟨#[95, 108, 97, 119, 95, 115, 105, 122, 101, 100]⟩
def f__law_inner : Str := ⟨#[95, 108, 97, 119, 95, 105, 110, 110, 101, 114]⟩
def f__law_who : Str := ⟨#[95, 108, 97, 119, 95, 119, 104, 111]⟩
def f__law_serves : Str := ⟨#[95, 108, 97, 119, 95, 115, 101, 114, 118, 101, 115]⟩
def f__law_play : Str := ⟨#[95, 108, 97, 119, 95, 112, 108, 97, 121]⟩
def f__law_row : Str := ⟨#[95, 108, 97, 119, 95, 114, 111, 119]⟩
def f__law_one : Str := ⟨#[95, 108, 97, 119, 95, 111, 110, 101]⟩
def f__law_told : Str := ⟨#[95, 108, 97, 119, 95, 116, 111, 108, 100]⟩
def f__law_due : Str := ⟨#[95, 108, 97, 119, 95, 100, 117, 101]⟩
def f_law : Str := ⟨#[108, 97, 119]⟩
end Ev
section
namespace Lw
open PySem PySem.Spec PyProof.Rows L2 Ev
def top (i : Nat) : Stmt := PySem.Challenge.pw_setpoints_k10_whole_standings.main.body.getD i (.Pass ⟨0, 0, 0, 0⟩)
abbrev R : PySem.W.OpenRow := PySem.W.OpenLaw.row PySem.Challenge.rw_setpoints_k10_whole_standings
def dfn (i : Nat) (n : Str) : He.DefD := ⟨(n, none), n, n, defArgs (top i), defBody (top i), defScope (top i), [], []⟩
def dOver : He.DefD := ⟨("Over", some "__init__"), "__init__", "Over.__init__", PySem.OverX.iA ⟨12, 17, 12, 21⟩ ⟨12, 23, 12, 25⟩, PySem.OverX.iB ⟨13, 8, 13, 12⟩ ⟨13, 8, 13, 15⟩ ⟨13, 18, 13, 20⟩ ⟨13, 8, 13, 20⟩, PySem.OverX.iS, [], []⟩
def fn : List He.DefD := [dfn 26 f_is_number, dfn 27 f_is_turn, dfn 28 f_is_race, dfn 29 f_is_tied, dfn 30 f_is_series, dfn 31 f_is_shape, dfn 32 f_parts, dfn 33 f_size_of, dfn 34 f_is_form, dfn 35 f_look_form, dfn 38 f_look_side, dfn 39 f_look_row, dfn 40 f_inner_at, dfn 41 f_begun, dfn 42 f_won_by, dfn 43 f_served, dfn 44 f_decided, dfn 45 f_behind, dfn 46 f_lifted, dfn 47 f_pushed, dfn 48 f_pairs, dfn 49 f_server_of, dfn 50 f_winner_of, dfn 51 f_played, dfn 53 f_state_of, dfn 54 f_standing, dfn 55 f_winner, dfn 56 f_server, dfn 58 f__law_cell, dfn 59 f__law_mix, dfn 60 f__law_draw, dfn 61 f__law_pick, dfn 62 f__law_refusal, dfn 63 f__law_turn, dfn 64 f__law_form, dfn 65 f__law_size, dfn 66 f__law_sized, dfn 67 f__law_inner, dfn 68 f__law_who, dfn 69 f__law_serves, dfn 70 f__law_play, dfn 71 f__law_row, dfn 72 f__law_one, dfn 73 f__law_told, dfn 74 f__law_due, dfn 75 f_law, dOver]
def fa : List He.Fa := [.glo f_is_number, .glo f_is_turn, .glo f_is_race, .glo f_is_tied, .glo f_is_series, .glo f_is_shape, .glo f_parts, .glo f_size_of, .glo f_is_form, .glo f_look_form, .glo f_look_side, .glo f_look_row, .glo f_inner_at, .glo f_begun, .glo f_won_by, .glo f_served, .glo f_decided, .glo f_behind, .glo f_lifted, .glo f_pushed, .glo f_pairs, .glo f_server_of, .glo f_winner_of, .glo f_played, .glo f_state_of, .glo f_standing, .glo f_winner, .glo f_server, .glo f__law_cell, .glo f__law_mix, .glo f__law_draw, .glo f__law_pick, .glo f__law_refusal, .glo f__law_turn, .glo f__law_form, .glo f__law_size, .glo f__law_sized, .glo f__law_inner, .glo f__law_who, .glo f__law_serves, .glo f__law_play, .glo f__law_row, .glo f__law_one, .glo f__law_told, .glo f__law_due, .glo f_law, .glo s_TURNS, .int s_MOST_DEEP 4, .int s_MOST_SIZE 20, .int s_MOST_GOAL 30, .int s_MOST_LEAD 3, .glo s_SERIES, .int s_MOST_POINTS 500, .free "len", .free "abs", .free "max", .free "min", .free "sum", .free "all", .free "int", .free "str", .free "list", .free "tuple", .free "isinstance", .free "bool", .free "range", .free "ValueError"]
def ex (K : PySem.W.Frag) : Bool := He.tupB K s_TURNS [.str s_keep, .str s_each, .str s_twos, .str s_pairs, .str s_winner, .str s_on] && He.tupB K s_SERIES [.int 1, .int 3, .int 5, .int 7] && exAllB K
def loose0 : List Str := ["ScoreError", "BadForm", "BadSide", "BadRow", "Over", "NotOver", "BadTree", "NoGift", "NoPoint", "Full", "Stuck", "Nothing", "BadNumber", "BadShare", "BadText", "BadName", "NoName", "NoMatch", "TURNS", "MOST_DEEP", "MOST_SIZE", "MOST_GOAL", "MOST_LEAD", "SERIES", "is_number", "is_turn", "is_race", "is_tied", "is_series", "is_shape"]
def loose1 : List Str := ["parts", "size_of", "is_form", "look_form", "MOST_POINTS", "look_side", "look_row", "inner_at", "begun", "won_by", "served", "decided", "behind", "lifted", "pushed", "pairs", "server_of", "winner_of", "played", "state_of", "standing", "winner", "server", "_law_cell", "_law_mix", "_law_draw", "_law_pick", "_law_refusal", "_law_turn", "_law_form"]
def loose2 : List Str := ["_law_size", "_law_sized", "_law_inner", "_law_who", "_law_serves", "_law_play", "_law_row", "_law_one", "_law_told", "_law_due"]
def loose : List Str := loose0 ++ loose1 ++ loose2
abbrev hk : PySem.W.Hook := hookX 4 fa fn ex
def ob (s : PySem.W.SharedT) : AlX := obsXG 4 fa fn ex (HandSHeadRun.getT s)
theorem ob_eq (s : PySem.W.SharedT) : ob s = hk.obs s.abs := obsXG_eq (HandSHeadRun.getT_eq s)
theorem run (w : World) : HandSHeadRun.RunEq R (PySem.W.view R.prog [75]) hk ob 6000 loose w := by
  intro os
  kernel_rfl
open HandSHeadRun PySem.W in
theorem h_e : opening R.prog = plainProg R.prog.main.scope.names := by kernel_rfl
open HandSHeadRun PySem.W in
theorem h_f : ∀ s, fenceModules? R.prog s = some s := fun s => by kernel_rfl
open HandSHeadRun PySem.W in
theorem h_def : defOf (view R.prog [75]) R.name = some (topDef R.prog 75, []) := by kernel_rfl
open HandSHeadRun PySem.W in
theorem h_p : R.prog.theDef R.name = some ((topDef R.prog 75).params, (topDef R.prog 75).body, (topDef R.prog 75).scope) := by kernel_rfl
open HandSHeadRun PySem.W in
theorem h_k : kwWritten? (topDef R.prog 75).params.kwonlyargs (topDef R.prog 75).params.kw_defaults = some [] := by kernel_rfl
theorem h_k1 : R.wellSaid = true := by decide +kernel
open HandSHeadRun PySem.W in
theorem h_ok : (chainsOk (view R.prog [75]) && opensWell R.prog && (frees R.toRowW && R.within.isEmpty)) = true := by decide +kernel
theorem h_b : R.prog.bare := ⟨rfl, rfl, rfl, rfl, rfl, by decide +kernel⟩
end Lw
end
set_option Elab.async false
set_option linter.all false
set_option maxRecDepth 100000
set_option maxHeartbeats 4000000
/-! ## The evaluator: values, store, core language -/
namespace Ev
open PySem

/-- a plain value: tuples are trees, lists, dicts, instances stand in the store -/
inductive Val where
  | none
  | bool (b : Bool)
  | int (i : Int)
  | str (s : Str)
  | tup (xs : List Val)
  | ref (n : Nat)
  deriving Inhabited

inductive Cell where
  | lst (xs : List Val)
  | ro (xs : List Val)
  | dict (kvs : List (Sum Int Str × Val))
  | inst (c : Str) (fs : List (Str × Val))

abbrev Store := List Cell

inductive Res (α : Type) where
  | ok (a : α) (s : Store)
  | exc (c : Str) (v : Val) (s : Store)
  | stuck

def Res.bind {α β : Type} (r : Res α) (f : α → Store → Res β) : Res β :=
  match r with
  | .ok a s => f a s
  | .exc _ _ _ => .stuck
  | .stuck => .stuck
/-- .. an error goes on -/
def Res.bindX {α β : Type} (r : Res α) (f : α → Store → Res β) : Res β :=
  match r with
  | .ok a s => f a s
  | .exc c v s => .exc c v s
  | .stuck => .stuck
@[simp] theorem bindX_ok {α β : Type} (a : α) (s : Store) (f : α → Store → Res β) : (Res.ok a s).bindX f = f a s := rfl
@[simp] theorem bindX_stuck {α β : Type} (f : α → Store → Res β) : (Res.stuck : Res α).bindX f = .stuck := rfl
@[simp] theorem bindX_exc {α β : Type} (c : Str) (v : Val) (s : Store) (f : α → Store → Res β) : (Res.exc c v s : Res α).bindX f = .exc c v s := rfl
theorem bind_eq_exc {α β : Type} {r : Res α} {f : α → Store → Res β} {c : Str} {v : Val} {s : Store} (h : r.bind f = .exc c v s) : ∃ a s1, r = .ok a s1 ∧ f a s1 = .exc c v s := by
  cases r with
  | ok a s1 => exact ⟨a, s1, rfl, h⟩
  | exc _ _ _ => cases h
  | stuck => cases h
theorem bindX_eq_exc {α β : Type} {r : Res α} {f : α → Store → Res β} {c : Str} {v : Val} {s : Store} (h : r.bindX f = .exc c v s) : r = .exc c v s ∨ ∃ a s1, r = .ok a s1 ∧ f a s1 = .exc c v s := by
  cases r with
  | ok a s1 => exact .inr ⟨a, s1, rfl, h⟩
  | exc _ _ _ => cases h; exact .inl rfl
  | stuck => cases h
@[simp] theorem bind_ok {α β : Type} (a : α) (s : Store) (f : α → Store → Res β) : (Res.ok a s).bind f = f a s := rfl
@[simp] theorem bind_stuck {α β : Type} (f : α → Store → Res β) : (Res.stuck : Res α).bind f = .stuck := rfl
@[simp] theorem bind_exc {α β : Type} (c : Str) (v : Val) (s : Store) (f : α → Store → Res β) : (Res.exc c v s : Res α).bind f = .stuck := rfl
theorem bind_eq_ok {α β : Type} {r : Res α} {f : α → Store → Res β} {b : β} {s : Store} (h : r.bind f = .ok b s) : ∃ a s1, r = .ok a s1 ∧ f a s1 = .ok b s := by
  cases r with
  | ok a s1 => exact ⟨a, s1, rfl, h⟩
  | exc c v s1 => cases h
  | stuck => cases h

/-- a guard -/
def need {α : Type} (p : Prop) [Decidable p] (r : Res α) : Res α := if p then r else .stuck
@[simp] theorem need_pos {α : Type} {p : Prop} [Decidable p] {r : Res α} (h : p) : need p r = r := if_pos h
theorem need_ok {α : Type} {p : Prop} [Decidable p] {r : Res α} {a : α} {s : Store} (h : need p r = .ok a s) : p ∧ r = .ok a s := by
  unfold need at h
  split at h
  · exact ⟨‹_›, h⟩
  · cases h

mutual
/-- no reference at or above n -/
def Val.lowB (n : Nat) : Val → Bool
  | .tup xs => lowL n xs
  | .ref m => decide (m < n)
  | .none => true
  | .bool _ => true
  | .int _ => true
  | .str _ => true
def lowL (n : Nat) : List Val → Bool
  | [] => true
  | x :: xs => x.lowB n && lowL n xs
end

/-- a list cell whose items have no reference at or above n -/
def Cell.lowC (n : Nat) : Cell → Bool
  | .lst xs => lowL n xs
  | .ro _ => false
  | .dict _ => false
  | .inst _ _ => false

open Classical in
/-- the old part of a store behind a run: each cell as it was, or a list of old things -/
noncomputable def mergeS (n : Nat) : Store → Store → Option Store
  | [], _ => some []
  | c :: cs, d :: ds => if c = d ∨ d.lowC n = true then (mergeS n cs ds).map (d :: ·) else none
  | _ :: _, [] => none

/-- at a call's end what is no longer reached is let go -/
noncomputable def gc (old : Store) (v : Val) (st : Store) : Res Val :=
  match mergeS old.length old st with
  | some s2 => if v.lowB old.length then .ok v s2 else
    (match v with
    | .ref r => (match st[r]? with
      | some (.lst xs) => if old.length ≤ r ∧ lowL old.length xs = true then .ok (.ref old.length) (s2 ++ [.lst xs]) else .ok v st
      | _ => .ok v st)
    | _ => .ok v st)
  | none => .ok v st

/-! ### operations on values -/
inductive Bop where | add | sub | mul | fdiv | mod | pow
  deriving DecidableEq
inductive Cop where | eq | ne | lt | le | gt | ge | isin | notin | is_ | isnot
  deriving DecidableEq
inductive Ty where | int | bool | str | tuple | list
  deriving DecidableEq
inductive Bi where | len | abs | max | min | sum | all | int | str | list | tuple
  deriving DecidableEq
inductive Mt where | append | extend | pop | count | index | get
  deriving DecidableEq
inductive Src where | seq | range
  deriving DecidableEq

/-- the items of a list in the store -/
def listAt (st : Store) (n : Nat) : Option (List Val) :=
  match st[n]? with
  | some (.lst xs) => some xs
  | some (.ro xs) => some xs
  | _ => none

/-- deep data of a value -/
def toD (st : Store) : Nat → Val → Option PyData
  | _, .none => some .none
  | _, .bool b => some (.bool b)
  | _, .int i => some (.int i)
  | _, .str s => some (.str s)
  | 0, .tup _ => none
  | k + 1, .tup xs => (xs.mapM (toD st k)).map PyData.tuple
  | 0, .ref _ => none
  | k + 1, .ref n => (listAt st n).bind fun xs => (xs.mapM (toD st k)).map PyData.list

def scalB : Val → Val → Option Bool
  | .none, .none => some true
  | .none, .int _ => some false
  | .int _, .none => some false
  | .none, .bool _ => some false
  | .bool _, .none => some false
  | .none, .str _ => some false
  | .str _, .none => some false
  | .int i, .int j => some (decide (i = j))
  | .bool a, .bool b => some (decide (a = b))
  | .str a, .str b => some (decide (a = b))
  | .int _, .str _ => some false
  | .str _, .int _ => some false
  | .bool _, .str _ => some false
  | .str _, .bool _ => some false
  | _, _ => none

/-- how deep == looks -/
def eqDeep : Nat := 24
def eqM (st : Store) (a b : Val) : Option Bool :=
  match scalB a b with
  | some r => some r
  | none => (match toD st eqDeep a, toD st eqDeep b with
    | some d, some e => if SeqAt.shaped d = true ∧ SeqAt.shaped e = true then some (PyData.eqv d e) else none
    | _, _ => none)

def flatB : Val → Bool
  | .none => true
  | .bool _ => true
  | .int _ => true
  | .str _ => true
  | .tup _ => false
  | .ref _ => false
def flatEq : Val → Val → Bool
  | .none, .none => true
  | .bool a, .bool b => a == b
  | .bool a, .int b => (if a then 1 else 0) == b
  | .int a, .bool b => a == (if b then 1 else 0)
  | .int a, .int b => a == b
  | .str a, .str b => a == b
  | _, _ => false

def seqItems (st : Store) : Val → Option (List Val)
  | .tup xs => some xs
  | .ref n => listAt st n
  | _ => none

def inM (st : Store) (a b : Val) : Option Bool :=
  (seqItems st b).bind fun xs => if flatB a = true ∧ xs.all flatB = true then some (xs.any fun y => flatEq y a) else none

def optB (o : Option Bool) (neg : Bool) (st : Store) : Res Val :=
  match o with
  | some b => .ok (.bool (if neg then !b else b)) st
  | none => .stuck

def cmpop (op : Cop) (a b : Val) (st : Store) : Res Val :=
  match op with
  | .eq => optB (eqM st a b) false st
  | .ne => optB (eqM st a b) true st
  | .lt => (match a, b with | .int i, .int j => .ok (.bool (decide (i < j))) st | _, _ => .stuck)
  | .le => (match a, b with | .int i, .int j => .ok (.bool (decide (i ≤ j))) st | _, _ => .stuck)
  | .gt => (match a, b with | .int i, .int j => .ok (.bool (decide (j < i))) st | _, _ => .stuck)
  | .ge => (match a, b with | .int i, .int j => .ok (.bool (decide (j ≤ i))) st | _, _ => .stuck)
  | .isin => optB (inM st a b) false st
  | .notin => optB (inM st a b) true st
  | .is_ => (match b with | .none => .ok (.bool (match a with | .none => true | _ => false)) st | _ => .stuck)
  | .isnot => (match b with | .none => .ok (.bool (match a with | .none => false | _ => true)) st | _ => .stuck)

def binop (op : Bop) (a b : Val) (st : Store) : Res Val :=
  match op, a, b with
  | .add, .int i, .int j => .ok (.int (i + j)) st
  | .add, .str x, .str y => need (x.length + y.length ≤ sizeLine) (.ok (.str (x ++ y)) st)
  | .add, .tup xs, .tup ys => need (xs.length + ys.length ≤ sizeLine) (.ok (.tup (xs ++ ys)) st)
  | .add, .ref n, .ref m => (match st[n]?, st[m]? with
    | some (.lst xs), some (.lst ys) => need (xs.length + ys.length ≤ sizeLine) (.ok (.ref st.length) (st ++ [.lst (xs ++ ys)]))
    | _, _ => .stuck)
  | .sub, .int i, .int j => .ok (.int (i - j)) st
  | .mul, .int i, .int j => need ((-(2 ^ 64) < i ∧ i < 2 ^ 64) ∨ (-(2 ^ 64) < j ∧ j < 2 ^ 64)) (.ok (.int (i * j)) st)
  | .mul, .tup xs, .int k => need (xs ≠ [] ∧ 2 ≤ k ∧ k ≤ 1000 ∧ xs.length ≤ 1000) (.ok (.tup (List.replicate k.toNat xs).flatten) st)
  | .mul, .ref n, .int k => (match st[n]? with
    | some (.lst xs) => need (-(2 ^ 63) ≤ k ∧ k < 2 ^ 63 ∧ xs.length * k.toNat ≤ sizeLine) (.ok (.ref st.length) (st ++ [.lst (List.replicate k.toNat xs).flatten]))
    | _ => .stuck)
  | .fdiv, .int i, .int j => need (0 < j ∧ j < 1073741824) (.ok (.int (i / j)) st)
  | .mod, .int i, .int j => need (0 < j) (.ok (.int (i % j)) st)
  | .pow, .int i, .int j => need (0 ≤ j ∧ j ≤ 1000000 ∧ i.natAbs < 2 ^ 64) (.ok (.int (i ^ j.toNat)) st)
  | _, _, _ => .stuck

def truth (st : Store) : Val → Option Bool
  | .none => some false
  | .bool b => some b
  | .int i => some (i != 0)
  | .str s => if s.length ≤ sizeLine then some ((s.length : Int) != 0) else none
  | .tup xs => some (!xs.isEmpty)
  | .ref n => (listAt st n).map fun xs => !xs.isEmpty

/-! dicts with int and text keys -/
def keyOf : Val → Option (Sum Int Str)
  | .int i => some (.inl i)
  | .str s => some (.inr s)
  | _ => none
def valK (kvs : List (Sum Int Str × Val)) (k : Sum Int Str) : Option Val := (kvs.find? fun kv => decide (kv.1 = k)).map (·.2)
def putKV (kvs : List (Sum Int Str × Val)) (k : Sum Int Str) (v : Val) : List (Sum Int Str × Val) :=
  if (kvs.any fun kv => decide (kv.1 = k)) = true then kvs.map (fun kv => if kv.1 = k then (kv.1, v) else kv) else kvs ++ [(k, v)]
def mergeKV (kvs more : List (Sum Int Str × Val)) : List (Sum Int Str × Val) := more.foldl (fun acc kv => putKV acc kv.1 kv.2) kvs
def toPairs : List Val → Option (List (Sum Int Str × Val))
  | [] => some []
  | k :: v :: r => (keyOf k).bind fun x => (toPairs r).map ((x, v) :: ·)
  | _ => none

def ixCell (c : Cell) (i : Val) : Option Val :=
  match c with
  | .lst xs => (match i with | .int k => L2.atI xs k | _ => none)
  | .ro xs => (match i with | .int k => L2.atI xs k | _ => none)
  | .dict kvs => (keyOf i).bind (valK kvs)
  | .inst _ _ => none
def ixop (a i : Val) (st : Store) : Res Val :=
  match a, i with
  | .tup xs, .int k => (match L2.atI xs k with | some v => .ok v st | none => .stuck)
  | .str s, .int k => (match L2.atI s.cps.toList k with | some c => need (s.length ≤ sizeLine) (.ok (.str ⟨#[c]⟩) st) | none => .stuck)
  | .ref n, i => (match (st[n]?).bind fun c => ixCell c i with | some v => .ok v st | none => .stuck)
  | _, _ => .stuck

/-- a bound of a slice: left out, or an int -/
def part (v : Val) (st : Store) : Res (Option Int) := match v with | .int i => .ok (some i) st | _ => .stuck
def cut {α : Type} (xs : List α) (lo hi : Option Int) : List α := (xs.drop (HT.sIx xs.length 0 lo)).take (HT.sIx xs.length xs.length hi - HT.sIx xs.length 0 lo)
def sliceop (a : Val) (l h : Option Int) (st : Store) : Res Val :=
  match a with
  | .tup xs => .ok (.tup (cut xs l h)) st
  | .ref n => (match listAt st n with
    | some xs => .ok (.ref st.length) (st ++ [.lst (cut xs l h)])
    | none => .stuck)
  | _ => .stuck

/-- a[::-1] -/
def revop (a : Val) (st : Store) : Res Val :=
  match a with
  | .tup xs => .ok (.tup xs.reverse) st
  | .ref n => (match listAt st n with | some xs => .ok (.ref st.length) (st ++ [.lst xs.reverse]) | none => .stuck)
  | _ => .stuck

def isInst (t : Ty) (st : Store) : Val → Option Bool
  | .none => some false
  | .bool _ => some (decide (t = .int) || decide (t = .bool))
  | .int _ => some (decide (t = .int))
  | .str _ => some (decide (t = .str))
  | .tup _ => some (decide (t = .tuple))
  | .ref n => (match st[n]? with
    | some (.lst _) => some (decide (t = .list))
    | _ => none)

def allInts : List Val → Option (List Int)
  | [] => some []
  | .int i :: r => (allInts r).map (i :: ·)
  | _ :: _ => none
def allBools : List Val → Option (List Bool)
  | [] => some []
  | .bool b :: r => (allBools r).map (b :: ·)
  | _ :: _ => none
def maxI : List Int → Option Int
  | [] => none
  | x :: xs => some (xs.foldl (fun a b => if b > a then b else a) x)
def minI : List Int → Option Int
  | [] => none
  | x :: xs => some (xs.foldl (fun a b => if b < a then b else a) x)

def imax (a b : Int) : Int := if b > a then b else a
def imin (a b : Int) : Int := if b < a then b else a
def iabs (a : Int) : Int := if a < 0 then -a else a
def bifn (b : Bi) (vs : List Val) (st : Store) : Res Val :=
  match b, vs with
  | .len, [.tup xs] => .ok (.int xs.length) st
  | .len, [.str s] => need (s.length ≤ sizeLine) (.ok (.int s.length) st)
  | .len, [.ref n] => (match listAt st n with | some xs => .ok (.int xs.length) st | none => .stuck)
  | .abs, [.int i] => .ok (.int (iabs i)) st
  | .max, [.int i, .int j] => .ok (.int (imax i j)) st
  | .min, [.int i, .int j] => .ok (.int (imin i j)) st
  | .max, [.ref n] => (match (listAt st n).bind fun xs => (allInts xs).bind maxI with | some m => .ok (.int m) st | none => .stuck)
  | .min, [.ref n] => (match (listAt st n).bind fun xs => (allInts xs).bind minI with | some m => .ok (.int m) st | none => .stuck)
  | .sum, [.ref n] => (match (listAt st n).bind allInts with | some ns => .ok (.int ns.sum) st | none => .stuck)
  | .all, [.ref n] => (match (listAt st n).bind allBools with | some bs => .ok (.bool (bs.all id)) st | none => .stuck)
  | .int, [.int i] => .ok (.int i) st
  | .int, [.bool b] => .ok (.int (if b then 1 else 0)) st
  | .int, [.str s] => (match PySem.intText? s with | some n => need (s.length ≤ 640) (.ok (.int n) st) | none => .stuck)
  | .list, [.tup xs] => .ok (.ref st.length) (st ++ [.lst xs])
  | .list, [.ref n] => (match listAt st n with | some xs => .ok (.ref st.length) (st ++ [.lst xs]) | none => .stuck)
  | .tuple, [.tup xs] => .ok (.tup xs) st
  | .tuple, [.ref n] => (match listAt st n with | some xs => .ok (.tup xs) st | none => .stuck)
  | _, _ => .stuck


def metop (m : Mt) (o : Val) (vs : List Val) (st : Store) : Res Val :=
  match m, o, vs with
  | .append, .ref n, [y] => (match st[n]? with
    | some (.lst xs) => need (xs.length < sizeLine) (.ok .none (st.set n (.lst (xs ++ [y]))))
    | _ => .stuck)
  | .count, .ref n, [.int k] => (match (listAt st n).bind allInts with | some ns => .ok (.int (ns.count k : Nat)) st | none => .stuck)
  | .count, .ref n, [.bool k] => (match listAt st n with
    | some xs => if xs.all flatB = true then .ok (.int ((xs.countP fun x => flatEq x (.bool k)) : Nat)) st else .stuck
    | none => .stuck)
  | .pop, .ref n, [] => (match st[n]? with
    | some (.lst xs) => (match xs.getLast? with | some y => .ok y (st.set n (.lst xs.dropLast)) | none => .stuck)
    | _ => .stuck)
  | .index, .ref n, [y] => (match listAt st n with
    | some xs => if flatB y = true ∧ xs.all flatB = true then (match xs.findIdx? fun x => flatEq x y with | some j => .ok (.int (j : Nat)) st | none => .stuck) else .stuck
    | none => .stuck)
  | .get, .ref n, [k, d] => (match st[n]?, keyOf k with
    | some (.dict kvs), some x => .ok ((valK kvs x).getD d) st
    | _, _ => .stuck)
  | _, _, _ => .stuck

/-- the receiver's kind, ahead of the arguments -/
def mtOk (m : Mt) (o : Val) (st : Store) : Bool :=
  match o with
  | .ref n => (match m with
    | .get => (match st[n]? with | some (.dict _) => true | _ => false)
    | _ => (listAt st n).isSome)
  | _ => false

/-! errors held: their class, their field -/
def excAll : List Str := "ScoreError" :: "ValueError" :: "Over" :: exc0
def excFs (c : Str) (v : Val) : List (Str × Val) := if c = "Over" then [("at", v)] else []
def isExc (c : Str) (st : Store) : Val → Option Bool
  | .ref n => (match st[n]? with | some (.inst c' _) => some (excSub c' c) | _ => none)
  | _ => none
def fldAt (f : Str) (st : Store) : Val → Option Val
  | .ref n => (match st[n]? with | some (.inst c fs) => if c = "Over" ∧ f = "at" then fs.lookup f else none | _ => none)
  | _ => none

/-! ### the core language -/
inductive CE where
  | var (i : Nat)
  | none_
  | bool_ (b : Bool)
  | int_ (i : Int)
  | str_ (s : Str)
  | glob (x : Str)
  | nil
  | cons (a r : CE)
  | tup (args : CE)
  | lst (args : CE)
  | bin (op : Bop) (a b : CE)
  | neg (a : CE)
  | cmp (op : Cop) (a b : CE)
  | chain (op op' : Cop) (a b c : CE)
  | and1 (a : CE)
  | and2 (a r : CE)
  | or1 (a : CE)
  | or2 (a r : CE)
  | not_ (a : CE)
  | ifx (c a b : CE)
  | ix (a i : CE)
  | slice (a lo hi : CE)
  | rev (a : CE)
  | call (f : Str) (args : CE)
  | bi (b : Bi) (args : CE)
  | isi (t : Ty) (a : CE)
  | meth (m : Mt) (o args : CE)
  | comp (k : Src) (i : Nat) (src cond elt : CE)
  | kv (k v r : CE)
  | dict (ps : CE)
  | isx (c : Str) (a : CE)
  | fld (f : Str) (a : CE)

abbrev Env := List (Option Val)
def isNil : CE → Bool
  | .nil => true
  | _ => false

/-- a loop's items, and the list that must stay as it is -/
def srcItems (k : Src) (v : Val) (st : Store) : Option (List Val) :=
  match k, v with
  | .seq, .tup xs => some xs
  | .seq, .ref n => listAt st n
  | .range, .tup [.int n] => if n < 2 ^ 62 ∧ -(2 ^ 62) ≤ n then some ((List.range n.toNat).map fun (j : Nat) => Val.int (j : Int)) else none
  | _, _ => none
def stays (k : Src) (v : Val) (xs : List Val) (st : Store) : Prop :=
  match k, v with
  | .seq, .ref n => listAt st n = some xs
  | _, _ => True

open Classical in
noncomputable def compLoop (f : Val → Store → Res (Option Val)) (ok : Store → Prop) (D : Nat) : List Val → Store → Res Val
  | [], st => if ok st then .ok (.ref D) st else .stuck
  | x :: xs, st => if ok st then ((f x st).bind fun o st1 => match o with
    | none => compLoop f ok D xs st1
    | some y => (match st1[D]? with
      | some (.lst acc) => if acc.length < sizeLine then compLoop f ok D xs (st1.set D (.lst (acc ++ [y]))) else .stuck
      | _ => .stuck)) else .stuck

def testV (v : Val) (st : Store) : Res Bool := match truth st v with | some b => .ok b st | none => .stuck

structure Fns where
  fn : Str → List Val → Store → Res Val
  glob : Str → Option Val
  fuel : Nat

open Classical in
/-- a call: an error of the arguments goes on, if the function is one -/
noncomputable def callX (F : Fns) (f : Str) (r : Res Val) : Res Val :=
  match r with
  | .ok (.tup vs) s1 => F.fn f vs s1
  | .exc c v s1 => if ∃ args st, F.fn f args st ≠ .stuck then .exc c v s1 else .stuck
  | _ => .stuck
@[simp] theorem callX_ok (F : Fns) (f : Str) (vs : List Val) (s : Store) : callX F f (.ok (.tup vs) s) = F.fn f vs s := rfl
noncomputable def evalE (F : Fns) : CE → Env → Store → Res Val
  | .var i, env, st => (match env[i]? with | some (some v) => .ok v st | _ => .stuck)
  | .none_, _, st => .ok .none st
  | .bool_ b, _, st => .ok (.bool b) st
  | .int_ i, _, st => .ok (.int i) st
  | .str_ s, _, st => .ok (.str s) st
  | .glob x, _, st => (match F.glob x with | some v => .ok v st | none => .stuck)
  | .nil, _, st => .ok (.tup []) st
  | .cons a r, env, st => (evalE F a env st).bindX fun v s1 => (evalE F r env s1).bindX fun w s2 => match w with | .tup vs => .ok (.tup (v :: vs)) s2 | _ => .stuck
  | .tup args, env, st => (evalE F args env st).bind fun w s1 => match w with | .tup vs => need (vs.length ≤ sizeLine) (.ok (.tup vs) s1) | _ => .stuck
  | .lst args, env, st => (evalE F args env st).bind fun w s1 => match w with | .tup vs => need (vs.length ≤ sizeLine) (.ok (.ref s1.length) (s1 ++ [.lst vs])) | _ => .stuck
  | .bin op a b, env, st => (evalE F a env st).bind fun x s1 => (evalE F b env s1).bind fun y s2 => binop op x y s2
  | .neg a, env, st => (evalE F a env st).bind fun x s1 => match x with | .int i => .ok (.int (-i)) s1 | _ => .stuck
  | .cmp op a b, env, st => (evalE F a env st).bind fun x s1 => (evalE F b env s1).bind fun y s2 => cmpop op x y s2
  | .chain op op' a b c, env, st => (evalE F a env st).bind fun x s1 => (evalE F b env s1).bind fun y s2 => (cmpop op x y s2).bind fun r s3 => match r with
    | .bool d => if d = true then (evalE F c env s3).bind fun z s4 => cmpop op' y z s4 else .ok (.bool false) s3
    | _ => .stuck
  | .and1 a, env, st => evalE F a env st
  | .and2 a r, env, st => (evalE F a env st).bind fun x s1 => match x with
    | .bool d => if d = true then evalE F r env s1 else .ok (.bool false) s1
    | _ => .stuck
  | .or1 a, env, st => evalE F a env st
  | .or2 a r, env, st => (evalE F a env st).bind fun x s1 => match x with
    | .bool d => if d = true then .ok (.bool true) s1 else evalE F r env s1
    | _ => .stuck
  | .not_ a, env, st => (evalE F a env st).bind fun x s1 => (testV x s1).bind fun b s2 => .ok (.bool (!b)) s2
  | .ifx c a b, env, st => (evalE F c env st).bind fun x s1 => (testV x s1).bind fun t s2 => if t = true then evalE F a env s2 else evalE F b env s2
  | .ix a i, env, st => (evalE F a env st).bind fun x s1 => (evalE F i env s1).bind fun y s2 => ixop x y s2
  | .slice a lo hi, env, st => (evalE F a env st).bind fun x s1 =>
    (if isNil lo = true then Res.ok none s1 else (evalE F lo env s1).bind part).bind fun l s2 =>
    (if isNil hi = true then Res.ok none s2 else (evalE F hi env s2).bind part).bind fun h s3 => sliceop x l h s3
  | .rev a, env, st => (evalE F a env st).bind fun x s1 => revop x s1
  | .call f args, env, st => callX F f (evalE F args env st)
  | .bi b args, env, st => (evalE F args env st).bind fun w s1 => match w with | .tup vs => bifn b vs s1 | _ => .stuck
  | .isi t a, env, st => (evalE F a env st).bind fun x s1 => match isInst t s1 x with | some b => .ok (.bool b) s1 | none => .stuck
  | .meth m o args, env, st => (evalE F o env st).bind fun x s1 => need (mtOk m x s1 = true) <| (evalE F args env s1).bind fun w s2 => match w with | .tup vs => metop m x vs s2 | _ => .stuck
  | .comp k i src cond elt, env, st => (evalE F src env st).bind fun v s1 => match srcItems k v s1 with
    | some xs => compLoop (fun x s => if isNil cond = true then (evalE F elt (env.set i (some x)) s).bind fun y s3 => .ok (some y) s3
        else (evalE F cond (env.set i (some x)) s).bind fun t s2 => (testV t s2).bind fun b s3 => if b = true then (evalE F elt (env.set i (some x)) s3).bind fun y s4 => .ok (some y) s4 else .ok none s3) (stays k v xs) s1.length xs (s1 ++ [.lst []])
    | none => .stuck
  | .kv k v r, env, st => (evalE F k env st).bind fun x s1 => (evalE F v env s1).bind fun y s2 => (evalE F r env s2).bind fun w s3 => match w with | .tup vs => .ok (.tup (x :: y :: vs)) s3 | _ => .stuck
  | .dict ps, env, st => (evalE F ps env (st ++ [.dict []])).bind fun w s1 => match w with
    | .tup vs => (match s1[st.length]?, toPairs vs with
      | some (.dict []), some kvs => need (kvs.length ≤ 15) (.ok (.ref st.length) (s1.set st.length (.dict (mergeKV [] kvs))))
      | _, _ => .stuck)
    | _ => .stuck
  | .isx c a, env, st => if F.fuel % 2 = 1 then ((evalE F a env st).bind fun x s1 => match isExc c s1 x with | some b => .ok (.bool b) s1 | none => .stuck) else .stuck
  | .fld f a, env, st => if F.fuel % 2 = 1 then ((evalE F a env st).bind fun x s1 => match fldAt f s1 x with | some v => .ok v s1 | none => .stuck) else .stuck

inductive CS where
  | skip
  | seq (s r : CS)
  | expr (e : CE)
  | ret (e : CE)
  | retN
  | pass
  | brk
  | cont
  | set (i : Nat) (e : CE)
  | tset (is : List Nat) (e : CE)
  | tpar (i j : Nat) (e : CE)
  | sub (o i e : CE)
  | if_ (c : CE) (a b : CS)
  | while_ (c : CE) (a : CS)
  | for_ (k : Src) (is : List Nat) (src : CE) (a : CS)
  | never
  | raise0 (c : Str)
  | raise1 (c : Str) (e : CE)
  | tryc (i : Nat) (e : CE) (x : Str) (n j : Nat)

inductive Flow where
  | next | brk | cont | ret (v : Val)

def setAll : List Nat → List Val → Env → Option Env
  | [], [], env => some env
  | i :: is, v :: vs, env => setAll is vs (env.set i (some v))
  | _, _, _ => none
/-- a loop's target: one name, or several for a tuple -/
def bindTo : List Nat → Val → Env → Option Env
  | [i], v, env => some (env.set i (some v))
  | is, .tup vs, env => setAll is vs env
  | _, _, _ => none

def subStore (o i v : Val) (st : Store) : Res Unit :=
  match o with
  | .ref n => (match st[n]? with
    | some (.lst xs) => (match i with
      | .int k => (match L2.ixN xs.length k with | some j => .ok () (st.set n (.lst (xs.set j v))) | none => .stuck)
      | _ => .stuck)
    | some (.dict kvs) => (match keyOf i with
      | some k => need (kvs.length < sizeLine) (.ok () (st.set n (.dict (putKV kvs k v))))
      | none => .stuck)
    | _ => .stuck)
  | _ => .stuck

noncomputable def whileLoop (c : Env → Store → Res Bool) (b : Env → Store → Res (Flow × Env)) : Nat → Env → Store → Res (Flow × Env)
  | 0, _, _ => .stuck
  | n + 1, env, st => (c env st).bind fun t s1 => if t = true then ((b env s1).bind fun p s2 => match p.1 with
      | .next => whileLoop c b n p.2 s2
      | .cont => whileLoop c b n p.2 s2
      | .brk => .ok (.next, p.2) s2
      | .ret v => .ok (.ret v, p.2) s2) else .ok (.next, env) s1

open Classical in
noncomputable def forLoop (is : List Nat) (ok : Store → Prop) (b : Env → Store → Res (Flow × Env)) : List Val → Env → Store → Res (Flow × Env)
  | [], env, st => if ok st then .ok (.next, env) st else .stuck
  | x :: xs, env, st => if ok st then (match bindTo is x env with
    | some env1 => (b env1 st).bindX fun p s2 => (match p.1 with
      | .next => forLoop is ok b xs p.2 s2
      | .cont => forLoop is ok b xs p.2 s2
      | .brk => .ok (.next, p.2) s2
      | .ret v => .ok (.ret v, p.2) s2)
    | none => .stuck) else .stuck

noncomputable def evalS (F : Fns) : CS → Env → Store → Res (Flow × Env)
  | .skip, env, st => .ok (.next, env) st
  | .seq s r, env, st => (evalS F s env st).bindX fun p s1 => match p.1 with
    | .next => evalS F r p.2 s1
    | f => .ok (f, p.2) s1
  | .expr e, env, st => (evalE F e env st).bindX fun _ s1 => .ok (.next, env) s1
  | .ret e, env, st => (evalE F e env st).bindX fun v s1 => .ok (.ret v, env) s1
  | .retN, env, st => .ok (.ret .none, env) st
  | .pass, env, st => .ok (.next, env) st
  | .brk, env, st => .ok (.brk, env) st
  | .cont, env, st => .ok (.cont, env) st
  | .set i e, env, st => (evalE F e env st).bindX fun v s1 => .ok (.next, env.set i (some v)) s1
  | .tset is e, env, st => (evalE F e env st).bind fun v s1 => match v with
    | .tup vs => (match setAll is vs env with | some env1 => .ok (.next, env1) s1 | none => .stuck)
    | _ => .stuck
  | .tpar i j e, env, st => (evalE F e env st).bind fun w s1 => match w with
    | .tup [x, y] => .ok (.next, (env.set i (some x)).set j (some y)) s1
    | _ => .stuck
  | .sub o i e, env, st => (evalE F e env st).bind fun v s1 => (evalE F o env s1).bind fun x s2 => (evalE F i env s2).bind fun y s3 => (subStore x y v s3).bind fun _ s4 => .ok (.next, env) s4
  | .if_ c a b, env, st => (evalE F c env st).bind fun x s1 => (testV x s1).bind fun t s2 => if t = true then evalS F a env s2 else evalS F b env s2
  | .while_ c a, env, st => whileLoop (fun env s => (evalE F c env s).bind fun x s1 => testV x s1) (fun env s => evalS F a env s) F.fuel env st
  | .for_ k is src a, env, st => (evalE F src env st).bind fun v s1 => match srcItems k v s1 with
    | some xs => forLoop is (stays k v xs) (fun env s => evalS F a env s) xs env s1
    | none => .stuck
  | .never, _, _ => .stuck
  | .raise0 c, _, st => if c ∈ exc0 ∧ F.fuel % 2 = 1 then .exc c .none st else .stuck
  | .raise1 c e, env, st => if c = "Over" ∧ F.fuel % 2 = 1 then (evalE F e env st).bind fun v s1 => .exc c v s1 else .stuck
  | .tryc i e x n j, env, st => if x = "ScoreError" ∧ F.fuel % 2 = 1 then (match evalE F e env st with
    | .ok v s1 => .ok (.next, env.set i (some v)) s1
    | .exc c v s1 => .ok (.next, (env.set j (some (.ref s1.length))).set n none) (s1 ++ [.inst c (excFs c v)])
    | .stuck => .stuck) else .stuck

/-! ### functions -/
structure Def where
  params : Nat
  names : List Str
  body : CS
abbrev Tab := List (Str × Def)

noncomputable def runBody (F : Fns) (d : Def) (args : List Val) (st : Store) : Res Val :=
  if args.length = d.params then
    (evalS F d.body (args.map some ++ List.replicate (d.names.length - args.length) none) st).bindX fun p s1 => match p.1 with
      | .ret v => gc st v s1
      | .next => gc st .none s1
      | _ => .stuck
  else .stuck
/-- the expressions, the statements that errors may leave -/
def canR : CE → Bool
  | .and1 _ => false
  | .and2 _ _ => false
  | .or1 _ => false
  | .or2 _ _ => false
  | .cons a r => canR a && canR r
  | .call _ args => canR args && !isNil args
  | .ifx _ a b => canR a && canR b
  | _ => true
def canRS : CS → Bool
  | .seq a r => canRS a && canRS r
  | .expr e => canR e
  | .ret e => canR e
  | .set _ e => canR e
  | .if_ _ a b => canRS a && canRS b
  | .while_ _ _ => false
  | .for_ _ _ _ a => canRS a
  | .tryc _ _ _ _ _ => false
  | _ => true
def canB (T : Tab) (f : Str) : Bool := match T.lookup f with
  | some d => canRS d.body
  | none => false
def fin (b : Bool) (r : Res Val) : Res Val := match r with
  | .exc c v s => if b = true then .exc c v s else .stuck
  | r => r
@[simp] theorem fin_ok (b : Bool) (v : Val) (s : Store) : fin b (.ok v s) = .ok v s := rfl
noncomputable def callN (T : Tab) (gl : Str → Option Val) (W : Nat) : Nat → Str → List Val → Store → Res Val
  | 0, _, _, _ => .stuck
  | n + 1, f, args, st => match T.lookup f with
    | some d => fin (canB T f) (runBody ⟨callN T gl W n, gl, W⟩ d args st)
    | none => .stuck
end Ev

set_option Elab.async false
set_option linter.all false
set_option maxRecDepth 100000
set_option maxHeartbeats 4000000
/-! ## How plain values and the store stand in the abstract heap -/
namespace Ev
open PySem PySem.Spec PyProof.Rows L2

mutual
inductive RV (K : PySem.W.Frag) (ρ : List Addr) (H : Hp) : Val → V → Prop
  | none : RV K ρ H .none .non
  | bool (b : Bool) : RV K ρ H (.bool b) (.bl b)
  | int (i : Int) : RV K ρ H (.int i) (.int i)
  | str (s : Str) : RV K ρ H (.str s) (.str s)
  | tup {xs : List Val} {a : Addr} {vs : List V} : SqT K H a vs → RVs K ρ H xs vs → RV K ρ H (.tup xs) (.ref a)
  | ref {n : Nat} {a : Addr} : ρ[n]? = some a → RV K ρ H (.ref n) (.ref a)
inductive RVs (K : PySem.W.Frag) (ρ : List Addr) (H : Hp) : List Val → List V → Prop
  | nil : RVs K ρ H [] []
  | cons {x : Val} {v : V} {xs : List Val} {vs : List V} : RV K ρ H x v → RVs K ρ H xs vs → RVs K ρ H (x :: xs) (v :: vs)
end

/-- an error held: its class, its dict -/
def exK (a : Addr) (cls : Value) (d : Option Addr) : HO := .ext fun h => ∃ (oe : Obj) (vs : Array Value), h.get? a = some oe ∧ Zc cls d oe ∧ oe.data = .fields vs
/-- tuples, errors stay -/
structure Gr (K : PySem.W.Frag) (H H' : Hp) : Prop where
  tup : ∀ a vs, SqT K H a vs → SqT K H' a vs
  ext : ∀ a φ, H a = some (.ext φ) → H' a = some (.ext φ)
  xd : ∀ a fs, H a = some (.xd fs) → H' a = some (.xd fs)
theorem Gr.refl {K : PySem.W.Frag} {H : Hp} : Gr K H H := ⟨fun _ _ h => h, fun _ _ h => h, fun _ _ h => h⟩
theorem Gr.trans {K : PySem.W.Frag} {H H1 H2 : Hp} (a : Gr K H H1) (b : Gr K H1 H2) : Gr K H H2 := ⟨fun x vs h => b.tup x vs (a.tup x vs h), fun x vs h => b.ext x vs (a.ext x vs h), fun x vs h => b.xd x vs (a.xd x vs h)⟩
/-- more names of cells -/
def Ex (ρ ρ' : List Addr) : Prop := ∃ m, ρ' = ρ ++ m
theorem Ex.refl {ρ : List Addr} : Ex ρ ρ := ⟨[], by simp⟩
theorem Ex.trans {a b c : List Addr} (h : Ex a b) (h' : Ex b c) : Ex a c := by
  obtain ⟨m, rfl⟩ := h; obtain ⟨m', rfl⟩ := h'; exact ⟨m ++ m', by simp⟩
theorem Ex.get {ρ ρ' : List Addr} (h : Ex ρ ρ') {n : Nat} {a : Addr} (e : ρ[n]? = some a) : ρ'[n]? = some a := by
  obtain ⟨m, rfl⟩ := h
  rw [List.getElem?_append_left (List.getElem?_eq_some_iff.mp e).1]; exact e

section
variable {K : PySem.W.Frag} {ρ ρ' : List Addr} {H H' : Hp}
mutual
theorem RV.mono (hx : Ex ρ ρ') (hg : Gr K H H') : ∀ (x : Val) (v : V), RV K ρ H x v → RV K ρ' H' x v
  | .none, _, h => by cases h; exact .none
  | .bool _, _, h => by cases h; exact .bool _
  | .int _, _, h => by cases h; exact .int _
  | .str _, _, h => by cases h; exact .str _
  | .tup xs, _, h => by
    cases h with
    | tup a b => exact .tup (hg.tup _ _ a) (RVs.mono hx hg xs _ b)
  | .ref _, _, h => by
    cases h with
    | ref a => exact .ref (hx.get a)
theorem RVs.mono (hx : Ex ρ ρ') (hg : Gr K H H') : ∀ (xs : List Val) (vs : List V), RVs K ρ H xs vs → RVs K ρ' H' xs vs
  | [], _, h => by cases h; exact .nil
  | x :: xs, _, h => by
    cases h with
    | cons a b => exact .cons (RV.mono hx hg x _ a) (RVs.mono hx hg xs _ b)
end
/-- what has no reference beyond ρ -/
theorem RV.cutTo {m : List Addr} : ∀ (x : Val) (v : V), x.lowB ρ.length = true → RV K (ρ ++ m) H x v → RV K ρ H x v := by
  intro x
  refine Val.rec (motive_1 := fun x => ∀ (v : V), x.lowB ρ.length = true → RV K (ρ ++ m) H x v → RV K ρ H x v) (motive_2 := fun xs => ∀ (vs : List V), lowL ρ.length xs = true → RVs K (ρ ++ m) H xs vs → RVs K ρ H xs vs) ?_ ?_ ?_ ?_ ?_ ?_ ?_ ?_ x
  · intro v _ h; cases h; exact .none
  · intro b v _ h; cases h; exact .bool _
  · intro b v _ h; cases h; exact .int _
  · intro b v _ h; cases h; exact .str _
  · intro xs ih v hb h
    cases h with
    | tup a b => exact .tup a (ih _ hb b)
  · intro n v hb h
    cases h with
    | ref a =>
      have : n < ρ.length := of_decide_eq_true hb
      rw [List.getElem?_append_left this] at a
      exact .ref a
  · intro vs _ h; cases h; exact .nil
  · intro x xs ih1 ih2 vs hb h
    cases h with
    | cons a b =>
      have hb : (x.lowB ρ.length && lowL ρ.length xs) = true := hb
      obtain ⟨h1, h2⟩ := Bool.and_eq_true_iff.mp hb
      exact .cons (ih1 _ h1 a) (ih2 _ h2 b)
theorem RVs.cutTo {m : List Addr} : ∀ (xs : List Val) (vs : List V), lowL ρ.length xs = true → RVs K (ρ ++ m) H xs vs → RVs K ρ H xs vs
  | [], _, _, h => by cases h; exact .nil
  | x :: xs, _, hb, h => by
    cases h with
    | cons a b =>
      have hb : (x.lowB ρ.length && lowL ρ.length xs) = true := hb
      obtain ⟨h1, h2⟩ := Bool.and_eq_true_iff.mp hb
      exact .cons (RV.cutTo _ _ h1 a) (RVs.cutTo xs _ h2 b)
/-- .. and what stands over ρ has none -/
theorem RV.low : ∀ (x : Val) (v : V), RV K ρ H x v → x.lowB ρ.length = true := by
  intro x
  refine Val.rec (motive_1 := fun x => ∀ (v : V), RV K ρ H x v → x.lowB ρ.length = true) (motive_2 := fun xs => ∀ (vs : List V), RVs K ρ H xs vs → lowL ρ.length xs = true) ?_ ?_ ?_ ?_ ?_ ?_ ?_ ?_ x
  · intro v h; rfl
  · intro b v h; rfl
  · intro b v h; rfl
  · intro b v h; rfl
  · intro xs ih v h
    cases h with
    | tup a b => exact ih _ b
  · intro n v h
    cases h with
    | ref a => exact decide_eq_true (List.getElem?_eq_some_iff.mp a).1
  · intro vs h; rfl
  · intro x xs ih1 ih2 vs h
    cases h with
    | cons a b =>
      show (x.lowB ρ.length && lowL ρ.length xs) = true
      rw [ih1 _ a, ih2 _ b]; rfl
theorem RVs.low : ∀ (xs : List Val) (vs : List V), RVs K ρ H xs vs → lowL ρ.length xs = true
  | [], _, _ => rfl
  | x :: xs, _, h => by
    cases h with
    | cons a b =>
      show (x.lowB ρ.length && lowL ρ.length xs) = true
      rw [RV.low _ _ a, RVs.low _ _ b]; rfl
theorem RVs.length : ∀ {xs : List Val} {vs : List V}, RVs K ρ H xs vs → xs.length = vs.length
  | _, _, .nil => rfl
  | _, _, .cons _ b => by rw [List.length_cons, List.length_cons, RVs.length b]
theorem RVs.get : ∀ {xs : List Val} {vs : List V} {i : Nat} {x : Val}, RVs K ρ H xs vs → xs[i]? = some x → ∃ v, vs[i]? = some v ∧ RV K ρ H x v
  | _, _, i, _, .nil, e => by simp at e
  | _, _, 0, _, .cons a _, e => by simp at e; subst e; exact ⟨_, rfl, a⟩
  | _, _, i + 1, _, .cons _ b, e => by
    obtain ⟨v, h1, h2⟩ := RVs.get (i := i) b (by simpa using e)
    exact ⟨v, by simpa using h1, h2⟩
theorem RVs.append : ∀ {xs ys : List Val} {vs us : List V}, RVs K ρ H xs vs → RVs K ρ H ys us → RVs K ρ H (xs ++ ys) (vs ++ us)
  | _, _, _, _, .nil, h => h
  | _, _, _, _, .cons a b, h => .cons a (b.append h)
theorem RVs.drop : ∀ {xs : List Val} {vs : List V} (n : Nat), RVs K ρ H xs vs → RVs K ρ H (xs.drop n) (vs.drop n)
  | _, _, 0, h => h
  | _, _, _ + 1, .nil => .nil
  | _, _, n + 1, .cons _ b => b.drop n
theorem RVs.reverse : ∀ {xs : List Val} {vs : List V}, RVs K ρ H xs vs → RVs K ρ H xs.reverse vs.reverse
  | _, _, .nil => .nil
  | _, _, .cons a b => by rw [List.reverse_cons, List.reverse_cons]; exact b.reverse.append (.cons a .nil)
theorem RVs.take : ∀ {xs : List Val} {vs : List V} (n : Nat), RVs K ρ H xs vs → RVs K ρ H (xs.take n) (vs.take n)
  | _, _, 0, h => .nil
  | _, _, _ + 1, .nil => .nil
  | _, _, n + 1, .cons a b => .cons a (b.take n)
theorem RVs.set {x : Val} {v : V} (r : RV K ρ H x v) : ∀ {xs : List Val} {vs : List V} (i : Nat), RVs K ρ H xs vs → RVs K ρ H (xs.set i x) (vs.set i v)
  | _, _, _, .nil => .nil
  | _, _, 0, .cons _ t => .cons r t
  | _, _, i + 1, .cons q t => .cons q (RVs.set r i t)
theorem RVs.rep {xs : List Val} {vs : List V} (h : RVs K ρ H xs vs) : ∀ n : Nat, RVs K ρ H (List.replicate n xs).flatten (List.replicate n vs).flatten
  | 0 => .nil
  | n + 1 => by
    rw [List.replicate_succ, List.replicate_succ, List.flatten_cons, List.flatten_cons]
    exact h.append (h.rep n)
theorem RVs.ints : ∀ {xs : List Val} {vs : List V} {ns : List Int}, RVs K ρ H xs vs → allInts xs = some ns → vs = ns.map V.int
  | _, _, ns, .nil, e => by cases e; rfl
  | _, _, ns, .cons a b, e => by
    cases a with
    | int i =>
      rename_i xs vs
      have e : (allInts xs).map (i :: ·) = some ns := e
      cases q : allInts xs with
      | none => rw [q] at e; cases e
      | some ms => rw [q] at e; cases e; rw [RVs.ints b q]; rfl
    | _ => cases e
theorem RVs.bools : ∀ {xs : List Val} {vs : List V} {ns : List Bool}, RVs K ρ H xs vs → allBools xs = some ns → vs = ns.map V.bl
  | _, _, ns, .nil, e => by cases e; rfl
  | _, _, ns, .cons a b, e => by
    cases a with
    | bool i =>
      rename_i xs vs
      have e : (allBools xs).map (i :: ·) = some ns := e
      cases q : allBools xs with
      | none => rw [q] at e; cases e
      | some ms => rw [q] at e; cases e; rw [RVs.bools b q]; rfl
    | _ => cases e
theorem RVs.of_ints : ∀ (ns : List Int), RVs K ρ H (ns.map Val.int) (ns.map V.int)
  | [] => .nil
  | n :: ns => .cons (.int n) (RVs.of_ints ns)
theorem RVs.flat : ∀ {xs : List Val} {vs : List V}, RVs K ρ H xs vs → xs.all flatB = true → vs.all flatV = true
  | _, _, .nil, _ => rfl
  | _, _, .cons a b, h => by
    simp only [List.all_cons, Bool.and_eq_true] at h ⊢
    refine ⟨?_, b.flat h.2⟩
    cases a <;> first | rfl | exact absurd h.1 (by simp [flatB])
theorem RV.flat {x : Val} {v : V} (h : RV K ρ H x v) (f : flatB x = true) : flatV v = true := by
  cases h <;> first | rfl | exact absurd f (by simp [flatB])
theorem RV.flatEq {x y : Val} {v u : V} (h : RV K ρ H x v) (h' : RV K ρ H y u) (f : flatB x = true) (f' : flatB y = true) : eqV v u = Ev.flatEq x y := by
  cases h <;> first | (cases h' <;> first | rfl | cases f') | cases f
theorem RVs.inV {y : Val} {u : V} (h' : RV K ρ H y u) (f' : flatB y = true) : ∀ {xs : List Val} {vs : List V}, RVs K ρ H xs vs → xs.all flatB = true → L2.inV u vs = xs.any fun x => Ev.flatEq x y
  | _, _, .nil, _ => rfl
  | _, _, .cons a b, h => by
    simp only [List.all_cons, Bool.and_eq_true] at h
    have ih := RVs.inV h' f' b h.2
    unfold L2.inV at ih ⊢
    rw [List.any_cons, List.any_cons, ih, RV.flatEq a h' h.1 f']
theorem RVs.countF {y : Val} {u : V} (h' : RV K ρ H y u) (f' : flatB y = true) : ∀ {xs : List Val} {vs : List V}, RVs K ρ H xs vs → xs.all flatB = true → (vs.countP fun z => eqV z u) = xs.countP fun x => Ev.flatEq x y
  | _, _, .nil, _ => rfl
  | _, _, .cons a b, h => by
    simp only [List.all_cons, Bool.and_eq_true] at h
    rw [List.countP_cons, List.countP_cons, RVs.countF h' f' b h.2, RV.flatEq a h' h.1 f']
theorem RVs.isEmpty {xs : List Val} {vs : List V} (h : RVs K ρ H xs vs) : xs.isEmpty = vs.isEmpty := by cases h <;> rfl
theorem RVs.cut {xs : List Val} {vs : List V} (h : RVs K ρ H xs vs) (lo hi : Option Int) : RVs K ρ H (Ev.cut xs lo hi) (cutV vs lo hi) := by
  unfold Ev.cut cutV
  rw [h.length]
  exact (h.drop _).take _
theorem RVs.at_ {xs : List Val} {vs : List V} {i : Int} {x : Val} (h : RVs K ρ H xs vs) (e : L2.atI xs i = some x) : ∃ v, L2.atI vs i = some v ∧ RV K ρ H x v := by
  unfold L2.atI at e ⊢
  rw [← h.length]
  cases q : L2.ixN xs.length i with
  | none => rw [q] at e; cases e
  | some j => rw [q] at e; exact h.get e
end

/-! ### the store -/
section
variable (K : PySem.W.Frag) (ρ : List Addr) (H : Hp)
inductive KVs : List (Sum Int Str × Val) → List (Key × V) → Prop
  | nil : KVs [] []
  | cons {k : Sum Int Str} {x : Val} {v : V} {xs : List (Sum Int Str × Val)} {vs : List (Key × V)} : RV K ρ H x v → KVs xs vs → KVs ((k, x) :: xs) ((k, v) :: vs)
/-- a list that nothing changes -/
def Fro (a : Addr) (vs : List V) : Prop := (∃ o, H a = some (.frz o (.lst vs))) ∨
  ∃ (o : Obj) (its : Array Value) (n : Nat), K.lookup a = some o ∧ o.cls = .type "list" ∧ o.dict = none ∧ o.data = .seq its n ∧ its.size ≤ sizeLine ∧ Vals vs its.toList
/-- an error's fields -/
def FsR (fs : List (Str × Val)) (d : Option Addr) : Prop :=
  match fs with
  | [] => d = none
  | [(f, v)] => ∃ dd u, d = some dd ∧ H dd = some (.xd [(f, u)]) ∧ RV K ρ H v u
  | _ => False
def RC (c : Cell) (a : Addr) : Prop :=
  match c with
  | .lst xs => ∃ vs, H a = some (.lst vs) ∧ RVs K ρ H xs vs
  | .ro xs => ∃ vs, Fro K H a vs ∧ RVs K ρ H xs vs
  | .dict kvs => ∃ ws, H a = some (.dK ws) ∧ KVs K ρ H kvs ws
  | .inst c fs => ∃ (C : Addr) (d : Option Addr), PySem.W.nsIn K mainGlobals c = some (some (.ref C)) ∧ H a = some (exK a (.ref C) d) ∧ FsR K ρ H fs d ∧ (c = "Over" ∨ c ∈ exc0)
def mutB : Cell → Bool
  | .ro _ => false
  | _ => true
structure RS (st : Store) : Prop where
  len : ρ.length = st.length
  sep : ∀ (n m : Nat) (c d : Cell) (a : Addr), st[n]? = some c → st[m]? = some d → mutB c = true → mutB d = true → ρ[n]? = some a → ρ[m]? = some a → n = m
  cell : ∀ (n : Nat) (c : Cell) (a : Addr), st[n]? = some c → ρ[n]? = some a → RC K ρ H c a
end
section
variable {K : PySem.W.Frag} {ρ ρ' : List Addr} {H H' : Hp} {st : Store}
theorem KVs.mono (hx : Ex ρ ρ') (hg : Gr K H H') : ∀ {xs : List (Sum Int Str × Val)} {vs : List (Key × V)}, KVs K ρ H xs vs → KVs K ρ' H' xs vs
  | _, _, .nil => .nil
  | _, _, .cons a b => .cons (RV.mono hx hg _ _ a) (b.mono hx hg)
theorem KVs.length : ∀ {xs : List (Sum Int Str × Val)} {vs : List (Key × V)}, KVs K ρ H xs vs → xs.length = vs.length
  | _, _, .nil => rfl
  | _, _, .cons _ b => by rw [List.length_cons, List.length_cons, b.length]
theorem KVs.val {k : Sum Int Str} : ∀ {xs : List (Sum Int Str × Val)} {vs : List (Key × V)}, KVs K ρ H xs vs →
    (valK xs k = none ∧ valV vs k = none) ∨ ∃ x v, valK xs k = some x ∧ valV vs k = some v ∧ RV K ρ H x v
  | _, _, .nil => .inl ⟨rfl, rfl⟩
  | _, _, .cons (k := k') (x := x) (v := v) (xs := xs) (vs := vs) a b => by
    by_cases e : k' = k
    · exact .inr ⟨x, v, by simp [valK, List.find?_cons, e], by simp [valV, List.find?_cons, e], a⟩
    · have e1 : valK ((k', x) :: xs) k = valK xs k := by simp [valK, List.find?_cons, e]
      have e2 : valV ((k', v) :: vs) k = valV vs k := by simp [valV, List.find?_cons, e]
      rw [e1, e2]
      exact b.val
theorem KVs.any {k : Sum Int Str} : ∀ {xs : List (Sum Int Str × Val)} {vs : List (Key × V)}, KVs K ρ H xs vs → (xs.any fun kv => decide (kv.1 = k)) = vs.any fun kv => decide (kv.1 = k)
  | _, _, .nil => rfl
  | _, _, .cons a b => by rw [List.any_cons, List.any_cons, b.any]
theorem KVs.mapPut {k : Sum Int Str} {x : Val} {v : V} (r : RV K ρ H x v) : ∀ {xs : List (Sum Int Str × Val)} {vs : List (Key × V)}, KVs K ρ H xs vs → KVs K ρ H (xs.map fun kv => if kv.1 = k then (kv.1, x) else kv) (vs.map fun kv => if kv.1 = k then (kv.1, v) else kv)
  | _, _, .nil => .nil
  | _, _, .cons (k := k') a b => by
    rw [List.map_cons, List.map_cons]
    by_cases e : k' = k
    · rw [if_pos (show k' = k from e), if_pos (show k' = k from e)]
      exact .cons r (b.mapPut r)
    · rw [if_neg (show ¬ k' = k from e), if_neg (show ¬ k' = k from e)]
      exact .cons a (b.mapPut r)
theorem KVs.append : ∀ {xs ys : List (Sum Int Str × Val)} {vs us : List (Key × V)}, KVs K ρ H xs vs → KVs K ρ H ys us → KVs K ρ H (xs ++ ys) (vs ++ us)
  | _, _, _, _, .nil, h => h
  | _, _, _, _, .cons a b, h => .cons a (b.append h)
theorem KVs.put {k : Sum Int Str} {x : Val} {v : V} (r : RV K ρ H x v) {xs : List (Sum Int Str × Val)} {vs : List (Key × V)} (h : KVs K ρ H xs vs) : KVs K ρ H (putKV xs k x) (putK vs k v) := by
  unfold putKV putK
  rw [h.any]
  split
  · exact h.mapPut r
  · exact h.append (.cons r .nil)
theorem KVs.merge : ∀ {more : List (Sum Int Str × Val)} {ms : List (Key × V)} {xs : List (Sum Int Str × Val)} {vs : List (Key × V)}, KVs K ρ H more ms → KVs K ρ H xs vs → KVs K ρ H (mergeKV xs more) (mergeK vs ms)
  | _, _, _, _, .nil, h => h
  | (k, x) :: more, (_, v) :: ms, xs, vs, .cons a b, h => show KVs K ρ H (mergeKV (putKV xs k x) more) (mergeK (putK vs k v) ms) from KVs.merge b (h.put a)

theorem FsR.mono {fs : List (Str × Val)} {d : Option Addr} (hx : Ex ρ ρ') (hg : Gr K H H') (h : FsR K ρ H fs d) : FsR K ρ' H' fs d := by
  unfold FsR at h ⊢
  split at h
  · exact h
  · obtain ⟨dd, u, e1, e2, r⟩ := h
    exact ⟨dd, u, e1, hg.xd _ _ e2, RV.mono hx hg _ _ r⟩
  · exact h.elim
theorem RC.mono {c : Cell} {a : Addr} (hx : Ex ρ ρ') (hg : Gr K H H') (ha : H a = H' a ∨ mutB c = false) (hf : ∀ o vs, H a = some (.frz o (.lst vs)) → H' a = some (.frz o (.lst vs))) (h : RC K ρ H c a) : RC K ρ' H' c a := by
  cases c with
  | lst xs =>
    obtain ⟨vs, e, r⟩ := h
    rcases ha with ha | ha
    · exact ⟨vs, ha ▸ e, RVs.mono hx hg _ _ r⟩
    · cases ha
  | ro xs =>
    obtain ⟨vs, e, r⟩ := h
    refine ⟨vs, ?_, RVs.mono hx hg _ _ r⟩
    rcases e with ⟨o, e⟩ | e
    · exact .inl ⟨o, hf _ _ e⟩
    · exact .inr e
  | dict kvs =>
    obtain ⟨vs, e, r⟩ := h
    rcases ha with ha | ha
    · exact ⟨vs, ha ▸ e, r.mono hx hg⟩
    · cases ha
  | inst c fs =>
    obtain ⟨C, d, e1, e2, e3, e4⟩ := h
    exact ⟨C, d, e1, hg.ext _ _ e2, e3.mono hx hg, e4⟩
/-- a cell's address is held -/
theorem RC.some {c : Cell} {a : Addr} (h : RC K ρ H c a) (m : mutB c = true) : H a ≠ none := by
  cases c with
  | lst xs => obtain ⟨vs, e, r⟩ := h; rw [e]; simp
  | ro xs => cases m
  | dict kvs => obtain ⟨vs, e, r⟩ := h; rw [e]; simp
  | inst c fs => obtain ⟨C, d, _, e, _⟩ := h; rw [e]; simp
theorem Gr.new {p : Addr} {o : HO} (h : H p = none) : Gr K H (upd H p o) := ⟨fun a vs s => by
  rcases s with (s | ⟨x, s⟩) | s
  · exact .inl (.inl (by rw [upd_ne (ne_of_none s h)]; exact s))
  · exact .inl (.inr ⟨x, by rw [upd_ne (ne_of_none s h)]; exact s⟩)
  · exact .inr s, fun a φ e => by rw [upd_ne (ne_of_none e h)]; exact e, fun a fs e => by rw [upd_ne (ne_of_none e h)]; exact e⟩
theorem Gr.write {p : Addr} {o u : HO} (h : H p = some u) (h1 : ∀ xs, u ≠ .tup xs) (h2 : ∀ x y, u ≠ .frz x y) (h3 : ∀ φ, u ≠ .ext φ := by intro _ z; cases z) (h4 : ∀ fs, u ≠ .xd fs := by intro _ z; cases z) : Gr K H (upd H p o) := ⟨fun a vs s => by
  rcases s with (s | ⟨x, s⟩) | s
  · exact .inl (.inl (by rw [upd_ne (fun e => by subst e; rw [h] at s; cases s; exact h1 _ rfl)]; exact s))
  · exact .inl (.inr ⟨x, by rw [upd_ne (fun e => by subst e; rw [h] at s; cases s; exact h2 _ _ rfl)]; exact s⟩)
  · exact .inr s, fun a φ e => by rw [upd_ne (fun z => by subst z; rw [h] at e; cases e; exact h3 _ rfl)]; exact e, fun a fs e => by rw [upd_ne (fun z => by subst z; rw [h] at e; cases e; exact h4 _ rfl)]; exact e⟩
/-- a new tuple, or anything that is no cell -/
theorem RS.other {p : Addr} {o : HO} (r : RS K ρ H st) (h : H p = none) : RS K ρ (upd H p o) st := by
  refine ⟨r.len, r.sep, fun n c a e1 e2 => ?_⟩
  have q := r.cell n c a e1 e2
  refine q.mono Ex.refl (Gr.new h) ?_ fun ob vs e => by rw [upd_ne (ne_of_none e h)]; exact e
  cases m : mutB c with
  | false => exact .inr rfl
  | true =>
    left
    rw [upd_ne]
    intro z
    subst z
    exact q.some m h
/-- a new cell -/
theorem RS.alloc {p : Addr} {o : HO} {c : Cell} (r : RS K ρ H st) (h : H p = none) (new : RC K (ρ ++ [p]) (upd H p o) c p) : RS K (ρ ++ [p]) (upd H p o) (st ++ [c]) := by
  have r1 : RS K ρ (upd H p o) st := r.other h
  have out : ∀ (n : Nat) (d : Cell) (a : Addr), (st ++ [c])[n]? = some d → (ρ ++ [p])[n]? = some a → (st[n]? = some d ∧ ρ[n]? = some a) ∨ (n = st.length ∧ d = c ∧ a = p) := fun n d a e1 e2 => by
    by_cases hn : n < st.length
    · rw [List.getElem?_append_left hn] at e1
      rw [List.getElem?_append_left (by rw [r.len]; exact hn)] at e2
      exact .inl ⟨e1, e2⟩
    · have hn2 : n < (st ++ [c]).length := (List.getElem?_eq_some_iff.mp e1).1
      have hn3 : n = st.length := by simp at hn2; omega
      subst hn3
      rw [List.getElem?_append_right (Nat.le_refl _)] at e1
      rw [← r.len, List.getElem?_append_right (Nat.le_refl _)] at e2
      simp at e1 e2
      exact .inr ⟨rfl, e1.symm, e2.symm⟩
  refine ⟨by simp [r.len], fun n m c1 c2 a e1 e2 m1 m2 e3 e4 => ?_, fun n d a e1 e2 => ?_⟩
  · rcases out n c1 a e1 e3 with ⟨x1, x2⟩ | ⟨x1, x2, x3⟩
    · rcases out m c2 a e2 e4 with ⟨y1, y2⟩ | ⟨y1, y2, y3⟩
      · exact r.sep n m c1 c2 a x1 y1 m1 m2 x2 y2
      · subst y3; exact absurd h ((r.cell n c1 a x1 x2).some m1)
    · rcases out m c2 a e2 e4 with ⟨y1, y2⟩ | ⟨y1, y2, y3⟩
      · subst x3; exact absurd h ((r.cell m c2 a y1 y2).some m2)
      · rw [x1, y1]
  · rcases out n d a e1 e2 with ⟨x1, x2⟩ | ⟨x1, x2, x3⟩
    · exact (r1.cell n d a x1 x2).mono ⟨[p], rfl⟩ Gr.refl (.inl rfl) fun _ _ e => e
    · subst x2 x3; exact new
/-- a cell is written -/
theorem RS.write {n : Nat} {a : Addr} {c c' : Cell} {o : HO} (r : RS K ρ H st) (e1 : st[n]? = some c) (e2 : ρ[n]? = some a) (m : mutB c = true) (m' : mutB c' = true) (hg : Gr K H (upd H a o)) (new : RC K ρ (upd H a o) c' a) : RS K ρ (upd H a o) (st.set n c') := by
  have hn : n < st.length := (List.getElem?_eq_some_iff.mp e1).1
  have out : ∀ (k : Nat) (d : Cell), (st.set n c')[k]? = some d → (k = n ∧ d = c') ∨ (k ≠ n ∧ st[k]? = some d) := fun k d e => by
    by_cases hk : k = n
    · subst hk; rw [List.getElem?_set_self hn] at e; cases e; exact .inl ⟨rfl, rfl⟩
    · rw [List.getElem?_set_ne (Ne.symm hk)] at e; exact .inr ⟨hk, e⟩
  refine ⟨by rw [r.len, List.length_set], fun k j c1 c2 b x1 x2 m1 m2 y1 y2 => ?_, fun k d b x1 x2 => ?_⟩
  · rcases out k c1 x1 with ⟨z1, z2⟩ | ⟨z1, z2⟩
    · rcases out j c2 x2 with ⟨w1, w2⟩ | ⟨w1, w2⟩
      · rw [z1, w1]
      · subst z1; exact r.sep k j c c2 b e1 w2 m m2 y1 y2
    · rcases out j c2 x2 with ⟨w1, w2⟩ | ⟨w1, w2⟩
      · subst w1; exact r.sep k j c1 c b z2 e1 m1 m y1 y2
      · exact r.sep k j c1 c2 b z2 w2 m1 m2 y1 y2
  · rcases out k d x1 with ⟨z1, z2⟩ | ⟨z1, z2⟩
    · subst z1 z2; rw [e2] at x2; cases x2; exact new
    · have q := r.cell k d b z2 x2
      cases md : mutB d with
      | false =>
        refine q.mono Ex.refl hg (.inr md) fun ob vs e => ?_
        rw [upd_ne]
        · exact e
        · intro z; subst z
          have q2 := r.cell n c b e1 e2
          cases c with
          | lst xs => obtain ⟨_, e', _⟩ := q2; rw [e] at e'; cases e'
          | ro xs => cases m
          | dict xs => obtain ⟨_, e', _⟩ := q2; rw [e] at e'; cases e'
          | inst _ _ => obtain ⟨_, _, _, e', _⟩ := q2; rw [e] at e'; cases e'
      | true =>
        have hb : b ≠ a := fun z => by subst z; exact z1 (r.sep k n d c b z2 e1 md m x2 e2)
        exact q.mono Ex.refl hg (.inl (by rw [upd_ne hb])) fun ob vs e => by rw [upd_ne hb]; exact e
theorem RS.at_ {n : Nat} {c : Cell} {a : Addr} (r : RS K ρ H st) (e1 : st[n]? = some c) (e2 : ρ[n]? = some a) : RC K ρ H c a := r.cell n c a e1 e2
/-- a list in the store, to be read -/
theorem RS.list {n : Nat} {xs : List Val} {a : Addr} (r : RS K ρ H st) (e1 : listAt st n = some xs) (e2 : ρ[n]? = some a) : ∃ vs, SqL K H a vs ∧ RVs K ρ H xs vs := by
  unfold listAt at e1
  split at e1
  · cases e1
    obtain ⟨vs, h, q⟩ := r.cell n _ a (by assumption) e2
    exact ⟨vs, SqL.of h, q⟩
  · cases e1
    obtain ⟨vs, h, q⟩ := r.cell n _ a (by assumption) e2
    refine ⟨vs, ?_, q⟩
    rcases h with ⟨o, h⟩ | h
    · exact .inl (.inr ⟨o, h⟩)
    · exact .inr h
  · cases e1
end

/-! ### names -/
structure RE (K : PySem.W.Frag) (ρ : List Addr) (H : Hp) (env : Env) (σ : L2.St) : Prop where
  len : env.length = σ.length
  at_ : ∀ (i : Nat) (v : Val), env[i]? = some (some v) → ∃ u, σ[i]? = some (some u) ∧ RV K ρ H v u
section
variable {K : PySem.W.Frag} {ρ ρ' : List Addr} {H H' : Hp} {env : Env} {σ : L2.St}
theorem RE.mono (r : RE K ρ H env σ) (hx : Ex ρ ρ') (hg : Gr K H H') : RE K ρ' H' env σ :=
  ⟨r.len, fun i v e => let ⟨u, a, b⟩ := r.at_ i v e; ⟨u, a, RV.mono hx hg _ _ b⟩⟩
theorem RE.set {i : Nat} {v : Val} {u : V} (r : RE K ρ H env σ) (h : RV K ρ H v u) : RE K ρ H (env.set i (some v)) (σ.set i (some u)) := by
  refine ⟨by rw [List.length_set, List.length_set, r.len], fun j w e => ?_⟩
  by_cases hj : i = j
  · subst hj
    have hi : i < env.length := by
      have := (List.getElem?_eq_some_iff.mp e).1
      simpa using this
    rw [List.getElem?_set_self hi] at e
    cases e
    exact ⟨u, List.getElem?_set_self (by rw [← r.len]; exact hi), h⟩
  · rw [List.getElem?_set_ne hj] at e ⊢
    exact r.at_ j w e
theorem RE.wipe {is : List Nat} {σ' : L2.St} (r : RE K ρ H env σ) : ∀ (is : List Nat), (∀ i ∈ is, ∀ v, env[i]? ≠ some (some v)) → RE K ρ H env (L2.wipe σ is)
  | [], _ => r
  | i :: is, h => by
    have q := RE.wipe (σ' := σ') (is := is) r is fun j hj => h j (List.mem_cons_of_mem _ hj)
    refine ⟨by show env.length = ((L2.wipe σ is).set i none).length; rw [List.length_set]; exact q.len, fun j v e => ?_⟩
    obtain ⟨u, a, b⟩ := q.at_ j v e
    refine ⟨u, ?_, b⟩
    show ((L2.wipe σ is).set i none)[j]? = _
    rw [List.getElem?_set_ne (fun z => by subst z; exact h _ List.mem_cons_self v e)]
    exact a
theorem RE.start {args : List Val} {vs : List V} (N : List Str) (h : RVs K ρ H args vs) : RE K ρ H (args.map some ++ List.replicate (N.length - args.length) none) (L2.start N vs) := by
  have hl := h.length
  refine ⟨by unfold L2.start; simp [hl], fun i v e => ?_⟩
  by_cases hi : i < args.length
  · rw [List.getElem?_append_left (by simpa using hi), List.getElem?_map] at e
    cases q : args[i]? with
    | none => rw [q] at e; cases e
    | some x =>
      rw [q] at e; cases e
      obtain ⟨u, a, b⟩ := h.get q
      refine ⟨u, ?_, b⟩
      unfold L2.start
      rw [List.getElem?_append_left (by simpa [← hl] using hi), List.getElem?_map, a]; rfl
  · rw [List.getElem?_append_right (by simpa using hi), List.getElem?_replicate] at e
    split at e <;> cases e
end

/-! ### data, for == -/
section
variable {K : PySem.W.Frag} {ρ : List Addr} {H : Hp} {st : Store}
theorem toD_all {st : Store} (r : RS K ρ H st) {k : Nat} (ih : ∀ (x : Val) (v : V) (d : PyData), RV K ρ H x v → toD st k x = some d → Dp K H v d) :
    ∀ (xs : List Val) (vs : List V) (ds : List PyData), RVs K ρ H xs vs → xs.mapM (toD st k) = some ds → DpAll K H vs ds
  | [], _, ds, .nil, e => by
    have : ds = [] := by simpa using e.symm
    subst this; exact .nil
  | x :: xs, _, ds, .cons a b, e => by
    rw [List.mapM_cons] at e
    cases q : toD st k x with
    | none => rw [q] at e; cases e
    | some d =>
      rw [q] at e
      cases q2 : xs.mapM (toD st k) with
      | none => rw [q2] at e; cases e
      | some es =>
        rw [q2] at e
        cases e
        exact .cons (ih _ _ _ a q) (toD_all r ih xs _ es b q2)
theorem toD_dp (r : RS K ρ H st) : ∀ (k : Nat) (x : Val) (v : V) (d : PyData), RV K ρ H x v → toD st k x = some d → Dp K H v d := by
  intro k
  induction k with
  | zero =>
    intro x v d h e
    cases h with
    | none => cases e; exact .non
    | bool b => cases e; exact .bl b
    | int i => cases e; exact .int i
    | str s => cases e; exact .str s
    | tup a b => cases e
    | ref a => cases e
  | succ k ih =>
    intro x v d h e
    cases h with
    | none => cases e; exact .non
    | bool b => cases e; exact .bl b
    | int i => cases e; exact .int i
    | str s => cases e; exact .str s
    | @tup xs a vs hs b =>
      have e : (xs.mapM (toD st k)).map PyData.tuple = some d := e
      cases q : xs.mapM (toD st k) with
      | none => rw [q] at e; cases e
      | some ds => rw [q] at e; cases e; exact .tup hs (toD_all r ih xs vs ds b q)
    | @ref n a hn =>
      have e : ((listAt st n).bind fun xs => (xs.mapM (toD st k)).map PyData.list) = some d := e
      cases q0 : listAt st n with
      | none => rw [q0] at e; cases e
      | some xs =>
        rw [q0] at e
        have e : (xs.mapM (toD st k)).map PyData.list = some d := e
        obtain ⟨vs, hs, b⟩ := r.list q0 hn
        cases q : xs.mapM (toD st k) with
        | none => rw [q] at e; cases e
        | some ds => rw [q] at e; cases e; exact .lst hs (toD_all r ih xs vs ds b q)
end
end Ev
/-! ## Errors: caught and kept -/
namespace L2
open PySem PySem.Spec PyProof.Rows
section
variable {X : Cx} {pins : List (Addr × Obj)} {σ : St} {H : Hp} {s : Shared}
/-- an error that was raised behind the entry is tracked from now on -/
theorem Inv.hold {a : Addr} {cls : Value} {d : Option Addr} {oe : Obj} {vs : Array Value} (I : Inv X pins σ H s) (ha : s.heap.get? a = some oe) (hz : Zc cls d oe) (hd : oe.data = .fields vs) (na : H a = none) (h0 : X.s_0.heap.get? a = none) (hL : a ≠ X.env.locals) (hc : ∀ x c, X.env.cells.lookup x = some c → c ≠ a) (hp : ∀ p ∈ X.pn ++ pins, p.1 ≠ a) : Inv X pins σ (upd H a (Ev.exK a cls d)) s := by
  have hok : HOk X.prog X.w (upd H a (Ev.exK a cls d)) s.heap := I.hok.laidN (fun _ _ q => q) na ⟨⟨oe, vs, ha, hz, hd⟩, ⟨oe, ha⟩, fun _ _ ⟨o, v, q, r⟩ k => ⟨o, v, k o q, r⟩⟩
  have un : Un X.fs X.ex X.H_0 (upd H a (Ev.exK a cls d)) X.s_0.heap s.heap :=
    { keep := I.base.keep
      slot := I.base.slot
      free := fun b o q n x => by
        rw [upd_ne (fun z => by rw [z, h0] at q; cases q)]
        exact I.base.free b o q n x
      there := I.base.there
      tups := fun b xs q => by
        have := I.base.tups b xs q
        rw [upd_ne (ne_of_none this na)]; exact this
      frzs := fun b o u q => by
        have := I.base.frzs b o u q
        rw [upd_ne (ne_of_none this na)]; exact this
      tbls := fun b ps q => by
        obtain ⟨more, e⟩ := I.base.tbls b ps q
        exact ⟨more, by rw [upd_ne (ne_of_none e na)]; exact e⟩ }
  exact ⟨I.ok, I.os, I.bare, un, I.loc, I.cell, by rw [upd_ne (Ne.symm hL)]; exact I.free, fun x c e => by rw [upd_ne (hc x c e)]; exact I.freeC x c e, fun p q => by
    obtain ⟨h1, h2, h3⟩ := I.pin p q
    exact ⟨h1, by rw [upd_ne (hp p q)]; exact h2, h3⟩, hok, I.len⟩
end
/-- what 'except x as n: m = n' wishes: slot i is n's, slot j is m's -/
def wKeep (K : PySem.W.Frag) (c : Value) (i j : Nat) (D : Ends) : WX := fun cls d σ H =>
  PySem.W.exmOne K cls c = some true ∧ ∀ a, H a = none → D.nx (((σ.set i (some (.ref a))).set j (some (.ref a))).set i none) (upd H a (Ev.exK a cls d))
section
variable {X : Cx} {x n m : Str} {c : Value} {i j : Nat} {body : List Stmt} {np np2 np3 pos pos' pos2 : Pos} {tb : WX → TS}
theorem ps_try_keep (hs : X.stack = X.env :: X.outer) (hf : X.env.frame = some X.env.locals) (hN : X.N.Nodup) (hi : X.N[i]? = some n) (hj : X.N[j]? = some m) (hln : X.env.kindOf n = some .local) (hlm : X.env.kindOf m = some .local) (hc : Names X x c) (hex : X.ex = [])
    (hb : ∀ (W : WX) (pn : List (Addr × Obj)) (xe : Value → Shared → Prop), Takes (X.tr pn xe) W → PassesOwn (model X.prog X.w) X.A X.env xe → PSs (X.tr pn xe) body (tb W))
    (hsu : ∀ (a : Addr) (oe : Obj) (pn : List (Addr × Obj)), PSs (X.suite a ((a, oe) :: pn)) [.Assign [.Name m np2] (.Name n np3) pos2] (fun D σ H => σ[i]? = some (some (.ref a)) ∧ D.nx (σ.set j (some (.ref a))) H)) :
    PS X (.Try body [.ExceptHandler (some (.Name x np)) (some n) [.Assign [.Name m np2] (.Name n np3) pos2] pos'] [] [] pos) (fun D σ H => tb (wKeep X.K c i j D) D σ H) := by
  refine ⟨fun pins s σ H D I h => ?_⟩
  have ok := I.ok
  have hfr : X.A.frames = some (X.env :: X.outer) := by rw [ok.frames, hs]
  have hloc : Loc X.env.scope n := .inl hln
  refine wpAny_Try_except ?_
  refine wpAny_mono ((hb (wKeep X.K c i j D) (X.pn ++ pins) (fun e s₁ => wpAny (model X.prog X.w) X.A (noteFrame e X.env) (fun _ s₂ => wpAny (model X.prog X.w) X.A (setFlight e none) (fun _ s₃ =>
    wpAny (model X.prog X.w) X.A (handleBy e X.env [.ExceptHandler (some (.Name x np)) (some n) [.Assign [.Name m np2] (.Name n np3) pos2] pos']) (SP X pins D) X.xe s₃) X.xe s₂) X.xe s₁) (fun u s' xx => ?_) PassesOwn.looking).run [] s σ H D (I.toTry _) h) (fun f s1 hsp => ?_) (fun e s1 he => he)
  · -- the catch
    obtain ⟨a, B, sI, pins', σ', H', cls, d, rfl, J', nb, up, sky, na, os, ag, hb1, hyes⟩ := xx
    have J : Inv X pins σ' H' sI := J'.ofTry ok
    have sky' : Sky B (X.env :: X.outer) a (Zc cls d) X.env.locals s'.heap := by rw [← hs]; exact sky
    show wpAny (model X.prog X.w) X.A (noteFrame (.ref a) X.env) _ _ _
    refine Sky.land Zc.steady hfr hf sky' fun h3 fl3 up3 => ?_
    have J3 : Inv X pins σ' H' { s' with heap := h3 } := J.landed nb fl3.1 (up.trans up3) os ag
    obtain ⟨oe3, vs3, he3, hz3, hd3⟩ := fl3.there
    have notFr : ∀ {h : Heap} {o : Obj} {vs : Array Value}, h.FunFrames B (X.env :: X.outer) → h.get? a = some o → o.data = .fields vs → a ∉ frs (X.env :: X.outer) := fun {h o vs} ff e dd hm => by
      obtain ⟨_, o', e', hnf⟩ := ff.mem hm
      rw [e] at e'; cases e'
      exact hnf _ dd
    have nfr := notFr fl3.2.2.1 he3 hd3
    have nL : a ≠ X.env.locals := fun z => nfr (List.mem_filterMap.mpr ⟨X.env, List.mem_cons_self, by rw [hf, z]⟩)
    have nF : a ∉ X.fs := fun hm => by
      obtain ⟨e, he, q⟩ := List.mem_filterMap.mp hm
      exact nfr (List.mem_filterMap.mpr ⟨e, List.mem_cons_of_mem _ he, q⟩)
    -- new behind the entry
    have naB : B.get? a = none := fl3.2.1
    have nI : sI.heap.get? a = none := by
      cases q : sI.heap.get? a with
      | none => rfl
      | some o =>
        have := nb a o q (by rw [hs]; exact nfr)
        rw [naB] at this; cases this
    have n0 : X.s_0.heap.get? a = none := by
      cases q : X.s_0.heap.get? a with
      | none => rfl
      | some o =>
        obtain ⟨o', e⟩ := J.base.there a o q (by rw [hex]; exact List.not_mem_nil)
        rw [nI] at e; cases e
    have nC : ∀ x c, X.env.cells.lookup x = some c → c ≠ a := fun x c e z => by
      obtain ⟨v, hv⟩ := J.cell x c e
      obtain ⟨o, ho, _⟩ := hv
      rw [z, nI] at ho; cases ho
    have nP : ∀ p ∈ X.pn ++ pins, p.1 ≠ a := fun p hp z => by
      have := (J.pin p hp).1
      rw [z, nI] at this; cases this
    have S3 := J3.suite he3 hd3 na nL nF
    refine wpAny_handleBy_cons (codeAny_handlers_test ?_) (by intro q; cases q)
    have LT : PySem.W.Looks (model X.prog X.w) h3 (typeOf (.ref a)) cls := fun A Q E s k q => wpAny_typeOf_ref (k _ _ he3) (by rw [hz3.1]; exact q)
    have LM := PySem.W.exm_one (M := model X.prog X.w) (J3.kIn) LT hb1
    have test : ∀ {Q : Value → Shared → Prop} {E : Value → Shared → Prop}, Q c { s' with heap := h3 } → wpAny (model X.prog X.w) (X.A.mark (some (.ref a))) (eval (.Name x np) X.env) Q E { s' with heap := h3 } := fun {Q E} q => by
      obtain ⟨hg, hdbg, hm | ⟨hm, hv, hnn⟩⟩ := hc
      · exact ld_glob (X := X.suite a ((a, oe3) :: (X.pn ++ pins))) S3 hg hm q hdbg
      · exact ld_blt (X := X.suite a ((a, oe3) :: (X.pn ++ pins))) S3 hg hm hv q hnn hdbg
    refine test (LM.here ?_)
    refine codeAny_handlers_suite_as ?_
    refine HandSPX.lands_againZ fl3 fun h4 fl4 up4 => ?_
    have J4 : Inv X pins σ' H' { s' with heap := h4 } := J.landed nb fl4.1 ((up.trans up3).trans up4) os ag
    obtain ⟨oe4, vs4, he4, hz4, hd4⟩ := fl4.there
    have S4 := J4.suite he4 hd4 na nL nF
    refine store_ok (X := X.suite a ((a, oe4) :: (X.pn ++ pins))) (v := .ref a) S4 hN hi hloc rfl (fun s5 S5 => ?_) (.inr hln)
    have hlt : i < σ'.length := by
      rw [J.len]
      exact (List.getElem?_eq_some_iff.mp hi).1
    refine wpAny_mono ((hsu a oe4 (X.pn ++ pins)).run [] s5 _ H' { nx := fun σ6 H6 => H6 = H' ∧ σ6 = (σ'.set i (some (.ref a))).set j (some (.ref a)), rt := fun _ _ => False, bk := fun _ _ => False, ct := fun _ _ => False } S5 ⟨List.getElem?_set_self hlt, rfl, rfl⟩) (fun f s6 hsp => ?_) (fun _ _ z => False.elim z)
    cases f with
    | next =>
      obtain ⟨σ6, H6, S6, e6, e6'⟩ := hsp
      subst e6 e6'
      refine gone_ok (X := X.suite a ((a, oe4) :: (X.pn ++ pins))) S6 hN hi hln fun s7 S7 => ?_
      obtain ⟨p1, p2, _⟩ := S7.pin (a, oe4) (List.mem_append_left _ List.mem_cons_self)
      have J7 : Inv X pins _ _ s7 := S7.unsuite ok
      exact ⟨_, _, J7.hold p1 hz4 hd4 p2 n0 nL nC nP, hyes a na⟩
    | brk =>
      obtain ⟨σ6, H6, S6, q6⟩ := hsp
      exact q6.elim
    | cont =>
      obtain ⟨σ6, H6, S6, q6⟩ := hsp
      exact q6.elim
    | ret u =>
      obtain ⟨v6, σ6, H6, S6, r6, q6⟩ := hsp
      exact q6.elim
  · cases f with
    | next =>
      obtain ⟨σ', H', J', q⟩ := hsp
      exact wpAny_execs_nil ⟨σ', H', J'.ofTry ok, q⟩
    | brk =>
      obtain ⟨σ', H', J', q⟩ := hsp
      exact ⟨σ', H', J'.ofTry ok, q⟩
    | cont =>
      obtain ⟨σ', H', J', q⟩ := hsp
      exact ⟨σ', H', J'.ofTry ok, q⟩
    | ret u =>
      obtain ⟨v, σ', H', J', r, q⟩ := hsp
      exact ⟨v, σ', H', J'.ofTry ok, r, q⟩
end
end L2

/-! ## Over: an own error with a field of its own (the block of the worked proof 42, turned to Over and at) -/
namespace PySem
namespace OverX
open PySem.W PySem.Calls PyProof.Rows PySem.HandSPX
/-! ### the text of __init__ -/
/-- what the written part says of Low, at C, and of its __init__, at fI -/
structure OverTxt (K : Frag) (mg : Str → Option Value) (C fI : Addr) : Prop where
  gC : mg "Over" = some (.ref C)
  cls : ∃ nm q N bs bm sn sub ab col dd k0 k1 k2 k3 k5, K.lookup C = some (excClassObj nm q C N bs bm true sn sub ab col dd k0 k1 k2 k3 k5 "ValueError.__new__") ∧ refsVE bm = true
  sa : findIn K (.ref C) "__setattr__" = some (some (.builtin "object.__setattr__"))
  ga : findIn K (.ref C) "__getattribute__" = some (some (.builtin "BaseException.__getattribute__"))
  gg : findIn K (.ref C) "__getattr__" = some none
  noN : findIn K (.ref C) "at" = some none
  iC : findIn K (.ref C) "__init__" = some (some (.ref fI))
  tC : typeIn K (.ref fI) = some (.type "function")
  kC : keepIn K (.ref C) = true
  exC : subIn K (.ref C) (.type "BaseException") = some true
  tyC : typeIn K (.ref C) = some (.type "type")
  hdC : hasDictIn K C = true
  te : exmOne K (.ref C) (.ref C) = some true
  fn : ∃ (oc : Value) (od : Option Addr) (kV doc pm : Value) (an : Option Addr) (cdv ct : Value) (osl : Array (Option Value)) (p1 p2 q1 q2 q3 q4 : Pos),
    K.lookup fI = some ⟨oc, od, .func (fnOf "__init__" "Over.__init__" (iA p1 p2) (iB q1 q2 q3 q4) iS .none kV doc pm an cdv ct), osl⟩ ∧ codeIn K cdv "Over.__init__" = true
theorem one_size (v : Value) : [v].length ≤ sizeLine := by
  rw [sizeLine_eq]
  exact (by decide : 1 ≤ 16777216)
theorem kept_but {K : Frag} {h h' : Heap} {x : Addr} (X : K.In h) (hx : K.lookup x = none) (k : ∀ b o, b ≠ x → h.get? b = some o → h'.get? b = some o) : K.In h' := fun a o e =>
  k a o (fun z => by rw [z, hx] at e; cases e) (X a o e)
theorem ldC {M : Model} {s : Shared} {name : Str} {scope : Scope} {L a : Addr} {cd : Value} {m : Str → Option Value} {x : Str} {pos : Pos} {v : Value} {Q : Value → Shared → Prop} {A : Around} {E : Value → Shared → Prop} (hn : s.heap.Ns L m) (hv : m x = some v) (h : Q v s)
    (hk : scope.kind = .function := by rfl) (hl : (envOfC name scope L a cd).kindOf x = some .local := by rfl) (hd : (x == ("__debug__" : Str)) = false := by decide) :
    wpAny M A (eval (.Name x pos) (envOfC name scope L a cd)) Q E s := wpAny_Name (wpAny_loadName_local hk hl hn hv h) hd
/-- what __init__ leaves of a fresh exception at x -/
structure InitEnd (h h' : Heap) (x C dx t1 : Addr) (v : Value) : Prop where
  keep : ∀ b o, b ≠ x → h.get? b = some o → h'.get? b = some o
  obj : h'.get? x = some { cls := .ref C, dict := some dx, data := .fields #[.ref t1, .none, .none, .none, .bool false, .none] }
  dbig : h.objs.size ≤ dx
  dne : dx ≠ x
  ns : h'.Ns1 dx (fun y => if y = "at" then some v else none)
/-- a made Low -/
structure OwnMade (h h' : Heap) (e C d : Addr) (v : Value) : Prop where
  keep : ∀ b o, h.get? b = some o → h'.get? b = some o
  new : h.objs.size ≤ e
  obj : ∃ oe vs, h'.get? e = some oe ∧ oe.cls = .ref C ∧ oe.dict = some d ∧ oe.data = .fields vs ∧ vs[1]? = some .none
  dbig : h.objs.size ≤ d
  dne : d ≠ e
  ns : h'.Ns1 d (fun y => if y = "at" then some v else none)
section
variable {prog : Program} {w : World} {A : Around} {E : Value → Shared → Prop} {R : Result → Shared → Prop} {s : Shared} {K : Frag} {mg : Str → Option Value} {C fI : Addr}
theorem over_init (T : OverTxt K mg C fI) {x t0 : Addr} {v : Value} (X : K.In s.heap) (hlim : s.heap.NoLimit) (hx : s.heap.get? x = some (excO C t0)) (hnx : K.lookup x = none) (hroom : A.depth < recursionLimit)
    (hq : ∀ h' tk dx, InitEnd s.heap h' x C dx t0 v → R (.ok (.ret .none)) { s with heap := h', toks := tk }) :
    codeAny (model prog w) A (.call (.ref fI) ⟨[.ref x, v], []⟩) R s := by
  obtain ⟨oc, od, kV, doc, pm, an, cdv, ct, osl, p1, p2, q1, q2, q3, q4, ho, hcd⟩ := T.fn
  obtain ⟨nm, q, N, bs, bm, sn, sub, ab, col, dd, k0, k1, k2, k3, k5, hC, hbm⟩ := T.cls
  have hcl : clsIn K C = some { name := nm, bases := bs, mro := .ref C :: bm, ns := N, qualname := q, hasDict := true, slotNames := sn, subclasses := sub, abstract := ab, collection := col, hasDel := false } := by unfold clsIn; rw [hC] <;> rfl
  refine Att.call_fn (binds := [("self", .ref x), ("at", v)]) X hlim ho hcd hroom (BindsTo.of_eq (by first | rfl | with_unfolding_all rfl)) (by first | rfl | decide | with_unfolding_all rfl) (fun s₁ IC => ?_) rfl rfl rfl
  obtain ⟨h₁, tk₁, rfl⟩ := IC.toInCall.same
  have k : ∀ b o, s.heap.get? b = some o → h₁.get? b = some o := IC.toInCall.keep
  have hn := IC.toInCall.ns
  have hxL : s.heap.objs.size ≠ x := Nat.ne_of_gt (Heap.lt_size hx)
  have X₁ : K.In h₁ := X.keeps k
  have hx₁ := k _ _ hx
  -- self.by = by
  show wpAny _ _ (execs _ _) _ _ _
  refine wpAny_execs_cons (plainObj_wpAny_Assign_Attribute ?_)
  refine ldC (v := v) hn (by first | rfl | with_unfolding_all rfl | kernel_rfl) (ldC (v := .ref x) hn (by first | rfl | with_unfolding_all rfl | kernel_rfl) ?_)
  refine set_plain X₁ (ox := excO C t0) (od := none) ⟨hx₁, rfl, rfl, trivial⟩ T.sa ?_
  refine exc_osa X₁ hx₁ hcl (show refsVE (.ref C :: bm) = true from hbm) rfl T.noN (fun h₃ tk₃ dx k₃ dn dne hx₃ hn₃ => ?_)
  show wpAny _ _ (execs _ _) _ _ _
  have z : s.heap.objs.size < h₁.objs.size := hn.lt
  exact wpAny_execs_nil (hq h₃ tk₃ dx ⟨fun b o hb e => k₃ b o hb (k b o e), hx₃, Nat.le_of_lt (Nat.lt_of_lt_of_le z dn), dne, hn₃⟩)
theorem over_made (T : OverTxt K mg C fI) {v : Value} (X : K.In s.heap) (hlim : s.heap.NoLimit) (hroom : A.depth + 1 < recursionLimit)
    (hq : ∀ h' tk e d, OwnMade s.heap h' e C d v → R (.ok (.ret (.ref e))) { s with heap := h', toks := tk }) :
    codeAny (model prog w) A (.call (.ref C) ⟨[v], []⟩) R s := by
  obtain ⟨nm, q, N, bs, bm, sn, sub, ab, col, dd, k0, k1, k2, k3, k5, hC, hbm⟩ := T.cls
  obtain ⟨hp, g, dr, tk, os⟩ := s
  have k : ∀ b o, hp.get? b = some o → ((hp.push (kdv_tup [v])).push (excO C hp.objs.size)).get? b = some o := fun b o e => Heap.get?_push_of_some _ (Heap.get?_push_of_some _ e)
  have hget : ((hp.push (kdv_tup [v])).push (excO C hp.objs.size)).get? (hp.objs.size + 1) = some (excO C hp.objs.size) := by heap_get
  have hnx : K.lookup (hp.objs.size + 1) = none := by
    cases e : K.lookup (hp.objs.size + 1) with
    | none => rfl
    | some o =>
      have z : hp.get? (hp.objs.size + 1) = some o := X _ _ e
      exact absurd (Nat.lt_of_succ_lt (Heap.lt_size z)) (Nat.lt_irrefl _)
  refine call_own F.excBase_ValueError (fun X => refsVE_contains X bm hbm) (X _ _ hC) (looks_findIn X T.iC) (fun self => bind_fn X self T.tC) (one_size v) ?_
  refine over_init (s := ⟨(hp.push (kdv_tup [v])).push (excO C hp.objs.size), g, dr, tk, os⟩) T (X.keeps k) (hlim.keeps k) hget hnx ?_ fun h' tk' dx ⟨k', hx, dn, dne, hns⟩ => ?_
  · show A.depth + 1 < recursionLimit
    exact hroom
  · have old : ∀ b o, hp.get? b = some o → h'.get? b = some o := fun b o e => k' b o (Nat.ne_of_lt (Nat.lt_succ_of_lt (Heap.lt_size e))) (k b o e)
    have z : hp.objs.size + 1 + 1 ≤ dx := by
      first
        | (simpa only [Heap.size_push] using dn)
        | exact dn
        | (have q := dn; rw [Heap.size_push, Heap.size_push] at q; exact q)
    exact ⟨rfl, hq h' tk' (hp.objs.size + 1) dx ⟨old, Nat.le_succ _, ⟨_, _, hx, rfl, rfl, rfl, rfl⟩, Nat.le_trans (Nat.le_trans (Nat.le_succ _) (Nat.le_succ _)) z, dne, hns⟩⟩
end
end OverX
end PySem
namespace L2
open PySem PySem.Spec PyProof.Rows
theorem relO_low {v : V} {v' : Value} (r : RelV v v') (f : Str) : RelO (List.lookup f [(("at" : Str), v)]) (if f = "at" then some v' else none) := by
  by_cases hw : f = "at"
  · subst hw
    rw [if_pos rfl]
    have q : List.lookup ("at" : Str) [(("at" : Str), v)] = some v := by simp [List.lookup]
    rw [q]
    exact r
  · rw [if_neg hw]
    have qw : (f == ("at" : Str)) = false := by simpa using hw
    have q2 : List.lookup f [(("at" : Str), v)] = none := by simp [List.lookup, qw]
    rw [q2]
    trivial
section
variable {X : Cx} {C fI : Addr}
/-- Low(e) -/
def tMkOver (C : Addr) (ta : TA) : St → Hp → XK → Prop := fun σ H Q => ta σ H fun vs H1 => ∃ v, vs = [v] ∧ ∀ d, H1 d = none → Q (.ref C) (some d) (upd H1 d (.xd [(("at" : Str), v)]))
theorem pmk_over {a : Expr} {ta : TA} {p pos : Pos} {k : Nat} (T : PySem.OverX.OverTxt X.K X.mg C fI) (hr : Room k X.A) (ha : PA X [a] ta) (hg : Gl X "Over" := by rfl)
    (he : starEach (a :: []) X.env = (false, eval a X.env) :: starEach [] X.env := by rfl) (hpl : (backTo pos (starEach [] X.env)).any (·.1) = false := by rfl) :
    PMk X (.Call (.Name "Over" p) [a] [] pos) (tMkOver C ta) := by
  intro pins s σ H Q I h
  refine wpAny_Call_Name_kw (ld_glob I hg T.gC ?_)
  refine PySem.W.callWith_K (h₀ := X.base) I.ok.mod.kin T.kC (thn (ha.run pos pins s σ H _ I h) fun us s1 hh => ?_) he hpl
  obtain ⟨vs, H1, I1, r1, v, ev, q1⟩ := hh
  subst ev
  refine ⟨I1.kIn, ?_⟩
  cases r1 with
  | cons rv rn =>
    rename_i v' us'
    cases rn
    show wpAny _ _ (call (.ref C) [v']) _ _ _
    have hlim := I1.nolimit
    obtain ⟨hp, g, dr, tk, os⟩ := s1
    refine wpAny_call (PySem.OverX.over_made T I1.kIn hlim (by have := hr.dp; omega) fun h' tk' e d M => ?_)
    show MkP X pins σ Q (.ref e) ⟨h', g, dr, tk', os⟩
    obtain ⟨oe, fv, hoe, hc, hd, hdat, h1⟩ := M.obj
    have hns := M.ns
    obtain ⟨G', g1, g2⟩ := restrict h' fun b => decide (b ≠ e)
    have gk : ∀ b, b ≠ e → G'.get? b = h'.get? b := fun b hb => g1 b (decide_eq_true hb)
    have ge : G'.get? e = none := g2 e (by simp)
    have old : ∀ b o, hp.get? b = some o → G'.get? b = some o := fun b o q => (gk b (Nat.ne_of_lt (Nat.lt_of_lt_of_le (Heap.lt_size q) M.new))).trans (M.keep b o q)
    have ob : ObjOk X.prog X.w (upd H1 d (.xd [(("at" : Str), v)])) G' d (.xd [(("at" : Str), v)]) :=
      ⟨_, hns.at (fun o q => (gk d M.dne).trans q), fun f => relO_low rv f⟩
    have J : Inv X pins σ (upd H1 d (.xd [(("at" : Str), v)])) ⟨G', g, dr, tk', os⟩ := I1.laid (t' := tk') old M.dbig ob
    refine ⟨e, oe, fv, ⟨G', g, dr, tk', os⟩, _, .ref C, some d, rfl, J, fun b o q => ?_, ge, hoe, ⟨hc, hd⟩, hdat, h1, ?_, rfl, I1.bare, raises_own T.exC T.tyC, q1 d (I1.hok.fresh M.dbig)⟩
    · by_cases hb : b = e
      · have q' : G'.get? b = some o := q
        rw [hb, ge] at q'; cases q'
      · exact (gk b hb).symm.trans q
    · rw [upd_ne (Ne.symm M.dne)]
      exact I1.hok.fresh M.new
/-- raise Low(e) -/
def tRaiseOver (C : Addr) (W : WX) (ta : TA) : TS := fun _ σ H => tMkOver C ta σ H fun cls d H' => W cls d σ H'
theorem ps_raiseOver {a : Expr} {ta : TA} {W : WX} {p pos pos2 : Pos} {k : Nat} (hc : X.calm = true) (T : PySem.OverX.OverTxt X.K X.mg C fI) (hr : Room k X.A) (tk : Takes X W) (ha : PA X [a] ta) (hg : Gl X "Over" := by rfl)
    (he : starEach (a :: []) X.env = (false, eval a X.env) :: starEach [] X.env := by rfl) (hpl : (backTo pos (starEach [] X.env)).any (·.1) = false := by rfl) :
    PS X (.Raise (some (.Call (.Name "Over" p) [a] [] pos)) none pos2) (tRaiseOver C W ta) := ps_raise hc tk (pmk_over T hr ha hg he hpl)
end
end L2
namespace PySem.W
open PySem PySem.Spec PySem.Calls PyProof.Rows
section
variable {prog : Program} {w : World} {A : Around} {E : Value → Shared → Prop} {s : Shared} {K : Frag} {x D : Addr} {ox : Obj}
theorem findObj_dataO {C : Addr} {name : Str} {a g : Value} (hc : (clsIn K C).isSome = true) (ha : findIn K (.ref C) name = some (some a)) (hg : specialIn K a "__get__" = some (some g)) (ht : takesIn K a = some true) : ∀ od, findObj K C od name = some (.bind g a) := by
  intro od
  obtain ⟨cd, hc⟩ := Option.isSome_iff_exists.mp hc
  unfold findObj
  rw [hc, Option.bind_some, ha, Option.bind_some]
  simp [hg, ht]
theorem kin_classO {Q : Option Value → Shared → Prop} (hga : findIn K (.ref D) "__getattribute__" = some (some (.builtin "BaseException.__getattribute__"))) (hgt : findIn K (.ref D) "__getattr__" = some none) (hsub : subIn K (.ref D) (.type "BaseException") = some true)
    (hdct : hasDictIn K D = true) (ha : findIn K (.ref D) "__class__" = some (some (.builtin "object.__class__")))
    (hn : specialIn K (.builtin "object.__class__") "__get__" = some (some (.builtin "getset_descriptor.__get__"))) (htk : takesIn K (.builtin "object.__class__") = some true) (hm : mroIn K D (.type "object") = some true)
    (X : K.In s.heap) {od : Option Obj} (I : InstAt s.heap x ox D od) (h : Q (some (.ref D)) { s with toks := s.toks + 1 }) : wpAny (model prog w) A (getAttr? (.ref x) "__class__") Q E s := by
  have hf : findObj K D od "__class__" = some (.bind (.builtin "getset_descriptor.__get__") (.builtin "object.__class__")) := findObj_dataO (by obtain ⟨cd, hc, _⟩ := any_some hdct; rw [hc]; rfl) ha hn htk od
  obtain ⟨hp, g, d, t, os⟩ := s
  have L0 := I.type (M := model prog w)
  have L1 := looks_findIn (M := model prog w) X hga
  have L2 := looks_findIn (M := model prog w) X hgt
  have L3 := looks_find (M := model prog w) X I hf
  have sub : Looks (model prog w) hp (isInstance (.ref x) (.type "BaseException")) true := L0.andThen (looks_subIn X hsub)
  have hx0 : (false && onTheHeap (Value.builtin "BaseException.__getattribute__")) = false := rfl
  have hx2 : (Value.builtin "BaseException.__getattribute__" == Value.builtin "object.__getattribute__") = false := by decide +kernel
  have hx1 : (onTheHeap (Value.ref D) && Value.builtin "BaseException.__getattribute__" == Value.builtin "object.__getattribute__") = false := by rw [hx2]; rfl
  unfold getAttr? getAttrBy? getAttrBy
  refine wpAny_bind (wpAny_mkText (wpAny_bind (wpAny_attempt (wpAny_holding (wpAny_bind (L0.at (wpAny_bind (L1.at ?_))))))))
  show wpAny _ _ (if (onTheHeap (Value.ref D) && Value.builtin "BaseException.__getattribute__" == Value.builtin "object.__getattribute__") = true then _ else _) _ _ _
  rw [hx1, if_neg Bool.false_ne_true]
  unfold getAttrByItsOwn hookBefore
  refine wpAny_bind ?_
  rw [if_pos (show onTheHeap (Value.ref D) = true from rfl)]
  refine L2.at ?_
  refine wpAny_bind (wpAny_attempt (wpAny_holding ?_))
  unfold callGetattribute
  rw [hx0, if_neg Bool.false_ne_true]
  unfold boundAndCalled
  rw [PySem.F.excAttr_ValueError.ga.bind (.ref x)]
  refine wpAny_bind (wpAny_pure ?_)
  show wpAny _ _ (call (.builtin "BaseException.__getattribute__") [.ref x, .str "__class__" t]) _ _ _
  refine wpAny_call (codeAny_call_builtin PySem.F.excAttr_ValueError.ga.plain PySem.F.entry_bexc_ga ?_)
  refine @check_slot (model prog w) _ _ ⟨hp, g, d, t + 1, os⟩ "BaseException.__getattribute__" "BaseException" "__getattribute__" (.ref x) [.str "__class__" t] [] _ (by decide +kernel) (by decide +kernel) sub (PySem.F.args_bexc_ga (.ref x) (.str "__class__" t)) ?_
  unfold Builtin.«object.__getattribute__»
  refine wpAny_bind (wpAny_of_eq (a := ((Value.ref x : Value), [Value.str "__class__" t])) (by first | rfl | (simp only [slotArgs]; rfl)) ?_)
  refine wpAny_bind (wpAny_pure (wpAny_bind (L0.at (wpAny_bind (L3.at ?_)))))
  show wpAny _ _ (holding [Value.builtin "object.__class__"] (call (.builtin "getset_descriptor.__get__") [.builtin "object.__class__", .ref x, .ref D]) >>= ret) _ _ _
  refine wpAny_bind (wpAny_holding (wpAny_call (class_get (s := ⟨hp, g, d, t + 1, os⟩) (ox := ox) (od := od) X I hm ?_)))
  refine wpAny_pure ?_
  show wpAny _ _ (handedOut (.ref D)) _ _ _
  rw [handedOut_of (v := .ref D) rfl]
  first
    | exact wpAny_pure (wpAny_pure h)
    | exact wpAny_pure h
    | exact wpAny_pure (wpAny_bind (wpAny_pure (wpAny_pure h)))
theorem kitx_excO (hga : findIn K (.ref D) "__getattribute__" = some (some (.builtin "BaseException.__getattribute__"))) (hgt : findIn K (.ref D) "__getattr__" = some none) (hsub : subIn K (.ref D) (.type "BaseException") = some true) (hdct : hasDictIn K D = true) (ha : findIn K (.ref D) "__class__" = some (some (.builtin "object.__class__")))
    (hn : specialIn K (.builtin "object.__class__") "__get__" = some (some (.builtin "getset_descriptor.__get__"))) (htk : takesIn K (.builtin "object.__class__") = some true) (hm : mroIn K D (.type "object") = some true) :
    KitX K (.ref x) (.ref D) (fun h => ∃ od, InstAt h x ox D od) where
  ty := fun _ _ _ ⟨_, I⟩ => I.type
  it := fun _ _ X _ => by
    obtain ⟨cdD, hcD, _⟩ := any_some hdct
    unfold clsIn at hcD
    split at hcD
    · rename_i c' d' cd' sl' ho
      intro A' Q' E' s' k q
      unfold isType loadHead
      exact wpAny_bind (wpAny_loadPart (k _ _ (X _ _ ho)) (wpAny_pure q))
    · cases hcD
  ne := fun h tp dd its n sl X htp => by
    obtain ⟨cdD, hcD, _⟩ := any_some hdct
    refine Bool.eq_false_iff.mpr fun q => ?_
    have e : D = tp := Value.ref.inj (beq_iff_eq.mp q)
    subst e
    unfold clsIn at hcD
    split at hcD
    · rename_i c' d' cd' sl' ho
      have z := (X _ _ ho).symm.trans htp
      cases z
    · cases hcD
  ca := fun X ⟨_, I⟩ k => kin_classO hga hgt hsub hdct ha hn htk hm X I k
end
end PySem.W
namespace L2
open PySem PySem.Spec PyProof.Rows
/-- a held error, its class, its dict -/
def Held (H : Hp) (a : Addr) (D : Addr) (d : Option Addr) : Prop := H a = some (Ev.exK a (.ref D) d) ∧ (d = none ∨ ∃ dd fs, d = some dd ∧ H dd = some (.xd fs))
section
variable {X : Cx} {pins : List (Addr × Obj)} {σ : St} {H : Hp} {s : Shared}
theorem Held.at_ {a D : Addr} {d : Option Addr} (h : Held H a D d) (I : Inv X pins σ H s) : ∃ ox od, PySem.W.InstAt s.heap a ox D od ∧ ox.dict = d ∧ s.heap.get? a = some ox ∧ ∃ vs, ox.data = .fields vs := by
  obtain ⟨h1, h2⟩ := h
  obtain ⟨⟨oe, vs, ha, hz, hd⟩, _⟩ := I.hok a _ h1
  have no : PySem.W.notCls oe = true := by unfold PySem.W.notCls; rw [hd] <;> rfl
  rcases h2 with rfl | ⟨dd, fs, rfl, hdd⟩
  · exact ⟨oe, none, ⟨ha, hz.1, no, by rw [hz.2]; trivial⟩, hz.2, ha, vs, hd⟩
  · obtain ⟨mA, hns, hr⟩ := I.hok dd _ hdd
    obtain ⟨od, ho, hl⟩ := lookIn_ns hns
    exact ⟨oe, some od, ⟨ha, hz.1, no, by rw [hz.2]; exact ho⟩, hz.2, ha, vs, hd⟩
end
/-- isinstance(e, c), e an error that is held -/
def rIsK (K : PySem.W.Frag) : List V → Hp → VK → Prop := fun xs H Q => ∃ (a D : Addr) (d : Option Addr) (c : V) (cv : Value) (b : Bool), xs = [.ref a, c] ∧ Held H a D d ∧ ExcC K D ∧ (∀ u, RelV c u → u = cv) ∧ PySem.W.kitOne K (.ref D) cv = some b ∧ Q (.bl b) H
theorem call_isK {X : Cx} : CallR X (.builtin "isinstance") (rIsK X.K) := by
  intro pins s σ H xs us Q I r h
  obtain ⟨a, D, d, c, cv, b, rfl, hh, C, hcv, e, q⟩ := h
  cases r with
  | cons rx rr =>
    cases rr with
    | cons rt rr =>
      cases rr
      cases rx
      have ec := hcv _ rt
      subst ec
      obtain ⟨ox, od, J, _⟩ := hh.at_ I
      exact PySem.W.kia_one (PySem.W.kitx_excO C.hg C.hk C.hs C.hd C.ha C.hn C.ht C.hm) I.kIn ⟨od, J⟩ e (fun z => nomatch z) fun tk => ⟨.bl b, H, I.kept (t' := tk) fun _ _ z => z, rfl, q⟩
/-- e.f, e an error that is held -/
def tFldK (K : PySem.W.Frag) (f : Str) (te : TE) : TE := fun σ H Q => te σ H fun x H1 => ∃ (a C dd : Addr) (fs : List (Str × V)) (v : V), x = .ref a ∧ H1 a = some (Ev.exK a (.ref C) (some dd)) ∧ H1 dd = some (.xd fs) ∧ fs.lookup f = some v ∧ XfC K C ∧ PySem.W.findIn K (.ref C) f = some none ∧ Q v H1
theorem pe_fldK {X : Cx} {e : Expr} {te : TE} {pos : Pos} {n : Str} (he : PE X e te) (hb : attributeBase e n X.env (eval e X.env) = eval e X.env := by rfl) :
    PE X (.Attribute e n pos) (tFldK X.K n te) := by
  refine ⟨fun pins s σ H Q I h => ?_⟩
  refine attr_of hb (thn (he.run pins s σ H _ I h) fun u s1 hh => ?_)
  obtain ⟨x, H1, I1, rx, a, C, dd, fs, v, ex, hx1, ea, l, T, hno, q⟩ := hh
  subst ex
  obtain rfl : u = Value.ref a := rx
  obtain ⟨⟨oe, vs, ha, hz, hd⟩, _⟩ := I1.hok a _ hx1
  have hx : ObjOk X.prog X.w H1 s1.heap dd (.xd fs) := I1.hok dd _ ea
  obtain ⟨mA, hns, hr⟩ := hx
  obtain ⟨od, ho, hl⟩ := lookIn_ns hns
  obtain ⟨u, hu, ru⟩ := RelO.some_of (v := v) (o := mA n) (by rw [← l]; exact hr n)
  have J : PySem.W.InstAt s1.heap a oe C (some od) := ⟨ha, hz.1, by unfold PySem.W.notCls; rw [hd] <;> rfl, by rw [hz.2]; exact ho⟩
  exact HandSPX.exc_get I1.kIn J T.ga T.gg T.exC (PySem.W.findObj_own T.hdC hno rfl (by rw [hl, hu])) (handed_of ru) ⟨v, H1, I1.tok _, ru, q⟩
end L2

set_option Elab.async false
set_option linter.all false
set_option maxRecDepth 100000
set_option maxHeartbeats 4000000
/-! ## Operations: what the evaluator answers, the model answers -/
namespace Ev
open PySem PySem.Spec PyProof.Rows L2

/-! ### weakest readings -/
def WE (X : Cx) (e : Expr) : TE := fun σ H Q => ∀ (pins : List (Addr × Obj)) (s : Shared), Inv X pins σ H s → wpAny (model X.prog X.w) X.A (eval e X.env) (EP X pins σ Q) X.xe s
def WT (X : Cx) (e : Expr) : TT := fun σ H Q => ∀ (pins : List (Addr × Obj)) (s : Shared), Inv X pins σ H s → wpAny (model X.prog X.w) X.A (isTrue e X.env (eval e X.env)) (TP X pins σ Q) X.xe s
def WW (X : Cx) (e : Expr) : TT := fun σ H Q => ∀ (whole : Sem Value) (pins : List (Addr × Obj)) (s : Shared), Inv X pins σ H s → wpAny (model X.prog X.w) X.A (isTrue e X.env whole) (TP X pins σ Q) X.xe s
def WA (X : Cx) (es : List Expr) : TA := fun σ H Q => ∀ (pos : Pos) (pins : List (Addr × Obj)) (s : Shared), Inv X pins σ H s → wpAny (model X.prog X.w) X.A (spliced (backTo pos (starEach es X.env))) (AP X pins σ Q) X.xe s
def WSt (X : Cx) (st : Stmt) : TS := fun D σ H => ∀ (pins : List (Addr × Obj)) (s : Shared), Inv X pins σ H s → wpAny (model X.prog X.w) X.A (exec st X.env) (SP X pins D) X.xe s
def WSs (X : Cx) (st : List Stmt) : TS := fun D σ H => ∀ (pins : List (Addr × Obj)) (s : Shared), Inv X pins σ H s → wpAny (model X.prog X.w) X.A (execs st X.env) (SP X pins D) X.xe s
def WOp (X : Cx) (f : Value → Value → Sem Value) : R2 := fun x y H Q => ∀ (pins : List (Addr × Obj)) (s : Shared) (σ : L2.St) (v u : Value), Inv X pins σ H s → RelV x v → RelV y u → wpAny (model X.prog X.w) X.A (f v u) (EP X pins σ Q) X.xe s
def WCall (X : Cx) (f : Value) : List V → Hp → VK → Prop := fun xs H Q => ∀ (pins : List (Addr × Obj)) (s : Shared) (σ : L2.St) (us : List Value), Inv X pins σ H s → Vals xs us → wpAny (model X.prog X.w) X.A (call f us) (EP X pins σ Q) X.xe s
section
variable {X : Cx} {e : Expr} {σ : L2.St} {H : Hp}
theorem WE.pe : PE X e (WE X e) := ⟨fun pins s _ _ _ I h => h pins s I⟩
theorem WT.pt : PT X e (WT X e) := ⟨fun pins s _ _ _ I h => h pins s I⟩
theorem WW.pw : PW X e (WW X e) := ⟨fun wh pins s _ _ _ I h => h wh pins s I⟩
theorem WA.pa {es : List Expr} : PA X es (WA X es) := ⟨fun pos pins s _ _ _ I h => h pos pins s I⟩
theorem WSt.ps {st : Stmt} : PS X st (WSt X st) := ⟨fun pins s _ _ _ I h => h pins s I⟩
theorem WSs.pss {st : List Stmt} : PSs X st (WSs X st) := ⟨fun pins s _ _ _ I h => h pins s I⟩
theorem WOp.r {f : Value → Value → Sem Value} : OpR X f (WOp X f) := fun pins s σ _ _ _ v u _ I rx ry h => h pins s σ v u I rx ry
theorem WCall.r {f : Value} : CallR X f (WCall X f) := fun pins s σ _ _ us _ I r h => h pins s σ us I r
theorem of_pe {t : TE} {Q : VK} (h : PE X e t) (q : t σ H Q) : WE X e σ H Q := fun pins s I => h.run pins s σ H Q I q
theorem of_pt {t : TT} {Q : Bool → Hp → Prop} (h : PT X e t) (q : t σ H Q) : WT X e σ H Q := fun pins s I => h.run pins s σ H Q I q
theorem of_pw {t : TT} {Q : Bool → Hp → Prop} (h : PW X e t) (q : t σ H Q) : WW X e σ H Q := fun wh pins s I => h.run wh pins s σ H Q I q
theorem of_pa {es : List Expr} {t : TA} {Q : List V → Hp → Prop} (h : PA X es t) (q : t σ H Q) : WA X es σ H Q := fun pos pins s I => h.run pos pins s σ H Q I q
theorem of_ps {st : Stmt} {t : TS} {D : Ends} (h : PS X st t) (q : t D σ H) : WSt X st D σ H := fun pins s I => h.run pins s σ H D I q
theorem of_pss {st : List Stmt} {t : TS} {D : Ends} (h : PSs X st t) (q : t D σ H) : WSs X st D σ H := fun pins s I => h.run pins s σ H D I q
theorem of_op {f : Value → Value → Sem Value} {r : R2} {x y : V} {Q : VK} (h : OpR X f r) (q : r x y H Q) : WOp X f x y H Q := fun pins s σ v u I rx ry => h pins s σ H x y v u Q I rx ry q
theorem of_call {f : Value} {r : List V → Hp → VK → Prop} {xs : List V} {Q : VK} (h : CallR X f r) (q : r xs H Q) : WCall X f xs H Q := fun pins s σ us I r' => h pins s σ H xs us Q I r' q
end

/-! ### what is wanted of a result -/
def PostV (K : PySem.W.Frag) (ρ : List Addr) (H : Hp) (r : Res Val) (Q : VK) : Prop :=
  match r with
  | .ok v st => ∀ (V : V) (H' : Hp) (ρ' : List Addr), Ex ρ ρ' → Gr K H H' → RS K ρ' H' st → RV K ρ' H' v V → Q V H'
  | _ => False
/-- an error on its way: its class, its dict -/
def XR (K : PySem.W.Frag) (ρ : List Addr) (H : Hp) (c : Str) (v : Val) (cls : Value) (d : Option Addr) : Prop := ∃ C, PySem.W.nsIn K mainGlobals c = some (some (.ref C)) ∧ cls = .ref C ∧ FsR K ρ H (excFs c v) d ∧ (c = "Over" ∨ c ∈ exc0)
def PostX {α : Type} (K : PySem.W.Frag) (ρ : List Addr) (H : Hp) (r : Res α) (E : XK) : Prop :=
  match r with
  | .exc c v st => ∀ (cls : Value) (d : Option Addr) (H' : Hp) (ρ' : List Addr), Ex ρ ρ' → Gr K H H' → RS K ρ' H' st → XR K ρ' H' c v cls d → E cls d H'
  | _ => False
theorem PostX.mono {α : Type} {K : PySem.W.Frag} {ρ ρ' : List Addr} {H H' : Hp} {r : Res α} {E : XK} (h : PostX K ρ H r E) (hx : Ex ρ ρ') (hg : Gr K H H') : PostX K ρ' H' r E := by
  cases r with
  | exc c v st => exact fun cls d H2 ρ2 x g rs xr => h cls d H2 ρ2 (hx.trans x) (hg.trans g) rs xr
  | _ => exact h.elim
def PostB (K : PySem.W.Frag) (ρ : List Addr) (H : Hp) (r : Res Bool) (Q : Bool → Hp → Prop) : Prop :=
  match r with
  | .ok b st => ∀ (H' : Hp) (ρ' : List Addr), Ex ρ ρ' → Gr K H H' → RS K ρ' H' st → Q b H'
  | _ => False
def PostL (K : PySem.W.Frag) (ρ : List Addr) (H : Hp) (r : Res Val) (Q : List V → Hp → Prop) : Prop :=
  match r with
  | .ok (.tup xs) st => ∀ (vs : List V) (H' : Hp) (ρ' : List Addr), Ex ρ ρ' → Gr K H H' → RS K ρ' H' st → RVs K ρ' H' xs vs → Q vs H'
  | _ => False
def PostF (K : PySem.W.Frag) (ρ : List Addr) (H : Hp) (r : Res (Flow × Env)) (D : Ends) : Prop :=
  match r with
  | .ok (f, env) st => ∀ (σ' : L2.St) (H' : Hp) (ρ' : List Addr), Ex ρ ρ' → Gr K H H' → RS K ρ' H' st → RE K ρ' H' env σ' → (match f with
    | .next => D.nx σ' H'
    | .brk => D.bk σ' H'
    | .cont => D.ct σ' H'
    | .ret v => ∀ V, RV K ρ' H' v V → D.rt V H')
  | _ => False
section
variable {K : PySem.W.Frag} {ρ ρ' : List Addr} {H H' : Hp}
theorem PostV.mono {r : Res Val} {Q : VK} (h : PostV K ρ H r Q) (hx : Ex ρ ρ') (hg : Gr K H H') : PostV K ρ' H' r Q := by
  cases r with
  | ok v st => exact fun V H2 ρ2 a b c d => h V H2 ρ2 (hx.trans a) (hg.trans b) c d
  | exc _ _ _ => exact h
  | stuck => exact h
theorem PostB.mono {r : Res Bool} {Q : Bool → Hp → Prop} (h : PostB K ρ H r Q) (hx : Ex ρ ρ') (hg : Gr K H H') : PostB K ρ' H' r Q := by
  cases r with
  | ok v st => exact fun H2 ρ2 a b c => h H2 ρ2 (hx.trans a) (hg.trans b) c
  | exc _ _ _ => exact h
  | stuck => exact h
theorem PostL.mono {r : Res Val} {Q : List V → Hp → Prop} (h : PostL K ρ H r Q) (hx : Ex ρ ρ') (hg : Gr K H H') : PostL K ρ' H' r Q := by
  cases r with
  | ok v st =>
    cases v with
    | tup xs => exact fun V H2 ρ2 a b c d => h V H2 ρ2 (hx.trans a) (hg.trans b) c d
    | _ => exact h
  | exc _ _ _ => exact h
  | stuck => exact h
theorem PostF.mono {r : Res (Flow × Env)} {D : Ends} (h : PostF K ρ H r D) (hx : Ex ρ ρ') (hg : Gr K H H') : PostF K ρ' H' r D := by
  cases r with
  | ok p st => exact fun σ2 H2 ρ2 a b c d => h σ2 H2 ρ2 (hx.trans a) (hg.trans b) c d
  | exc _ _ _ => exact h
  | stuck => exact h
theorem PostV.bnd {α : Type} {r : Res α} {f : α → Store → Res Val} {Q : VK} (h : PostV K ρ H (r.bind f) Q) : ∃ a s1, r = .ok a s1 ∧ PostV K ρ H (f a s1) Q := by
  cases r with
  | ok a s1 => exact ⟨a, s1, rfl, h⟩
  | exc _ _ _ => exact h.elim
  | stuck => exact h.elim
theorem PostV.bndX {α : Type} {r : Res α} {f : α → Store → Res Val} {Q : VK} (h : PostV K ρ H (r.bindX f) Q) : ∃ a s1, r = .ok a s1 ∧ PostV K ρ H (f a s1) Q := by
  cases r with
  | ok a s1 => exact ⟨a, s1, rfl, h⟩
  | exc _ _ _ => exact h.elim
  | stuck => exact h.elim
theorem PostB.bnd {α : Type} {r : Res α} {f : α → Store → Res Bool} {Q : Bool → Hp → Prop} (h : PostB K ρ H (r.bind f) Q) : ∃ a s1, r = .ok a s1 ∧ PostB K ρ H (f a s1) Q := by
  cases r with
  | ok a s1 => exact ⟨a, s1, rfl, h⟩
  | exc _ _ _ => exact h.elim
  | stuck => exact h.elim
theorem PostB.bndX {α : Type} {r : Res α} {f : α → Store → Res Bool} {Q : Bool → Hp → Prop} (h : PostB K ρ H (r.bindX f) Q) : ∃ a s1, r = .ok a s1 ∧ PostB K ρ H (f a s1) Q := by
  cases r with
  | ok a s1 => exact ⟨a, s1, rfl, h⟩
  | exc _ _ _ => exact h.elim
  | stuck => exact h.elim
theorem PostL.bnd {α : Type} {r : Res α} {f : α → Store → Res Val} {Q : List V → Hp → Prop} (h : PostL K ρ H (r.bind f) Q) : ∃ a s1, r = .ok a s1 ∧ PostL K ρ H (f a s1) Q := by
  cases r with
  | ok a s1 => exact ⟨a, s1, rfl, h⟩
  | exc _ _ _ => exact h.elim
  | stuck => exact h.elim
theorem PostL.bndX {α : Type} {r : Res α} {f : α → Store → Res Val} {Q : List V → Hp → Prop} (h : PostL K ρ H (r.bindX f) Q) : ∃ a s1, r = .ok a s1 ∧ PostL K ρ H (f a s1) Q := by
  cases r with
  | ok a s1 => exact ⟨a, s1, rfl, h⟩
  | exc _ _ _ => exact h.elim
  | stuck => exact h.elim
theorem PostF.bnd {α : Type} {r : Res α} {f : α → Store → Res (Flow × Env)} {D : Ends} (h : PostF K ρ H (r.bind f) D) : ∃ a s1, r = .ok a s1 ∧ PostF K ρ H (f a s1) D := by
  cases r with
  | ok a s1 => exact ⟨a, s1, rfl, h⟩
  | exc _ _ _ => exact h.elim
  | stuck => exact h.elim
theorem PostF.bndX {α : Type} {r : Res α} {f : α → Store → Res (Flow × Env)} {D : Ends} (h : PostF K ρ H (r.bindX f) D) : ∃ a s1, r = .ok a s1 ∧ PostF K ρ H (f a s1) D := by
  cases r with
  | ok a s1 => exact ⟨a, s1, rfl, h⟩
  | exc _ _ _ => exact h.elim
  | stuck => exact h.elim
theorem PostV.need {p : Prop} [Decidable p] {r : Res Val} {Q : VK} (h : PostV K ρ H (Ev.need p r) Q) : p ∧ PostV K ρ H r Q := by
  unfold Ev.need at h
  split at h
  · exact ⟨‹_›, h⟩
  · exact h.elim
/-- the value as it is, the store as it is -/
theorem PostV.here {v : Val} {st : Store} {Q : VK} {u : V} (h : PostV K ρ H (.ok v st) Q) (r : RS K ρ H st) (q : RV K ρ H v u) : Q u H := h u H ρ Ex.refl Gr.refl r q
/-- a new list -/
theorem PostV.newL {xs : List Val} {vs : List V} {st : Store} {Q : VK} {p : Addr} (h : PostV K ρ H (.ok (.ref st.length) (st ++ [.lst xs])) Q) (r : RS K ρ H st) (q : RVs K ρ H xs vs) (hp : H p = none) : Q (.ref p) (upd H p (.lst vs)) := by
  have hg : Gr K H (upd H p (.lst vs)) := Gr.new hp
  refine h _ _ (ρ ++ [p]) ⟨[p], rfl⟩ hg (r.alloc hp ⟨vs, upd_same, RVs.mono ⟨[p], rfl⟩ hg _ _ q⟩) (.ref ?_)
  rw [← r.len, List.getElem?_append_right (Nat.le_refl _)]; simp
/-- a new tuple -/
theorem PostV.newT {xs : List Val} {vs : List V} {st : Store} {Q : VK} {p : Addr} (h : PostV K ρ H (.ok (.tup xs) st) Q) (r : RS K ρ H st) (q : RVs K ρ H xs vs) (hp : H p = none) : Q (.ref p) (upd H p (.tup vs)) := by
  have hg : Gr K H (upd H p (.tup vs)) := Gr.new hp
  exact h _ _ ρ Ex.refl hg (r.other hp) (.tup (SqT.of upd_same) (RVs.mono Ex.refl hg _ _ q))
end

/-! ### operators -/
def opOf : Bop → Operator
  | .add => .Add | .sub => .Sub | .mul => .Mult | .fdiv => .FloorDiv | .mod => .Mod | .pow => .Pow
def cmpOf : Cop → CmpOp
  | .eq => .Eq | .ne => .NotEq | .lt => .Lt | .le => .LtE | .gt => .Gt | .ge => .GtE | .isin => .In | .notin => .NotIn | .is_ => .Is | .isnot => .IsNot
section
variable {X : Cx} {ρ : List Addr} {H : Hp} {st : Store} {Q : VK}
theorem bin_ok {op : Bop} {x y : Val} {v u : V} (rs : RS X.K ρ H st) (rx : RV X.K ρ H x v) (ry : RV X.K ρ H y u) (h : PostV X.K ρ H (binop op x y st) Q) : WOp X (binaryOp (opOf op)) v u H Q := by
  cases op with
  | add =>
    cases rx with
    | int i =>
      cases ry with
      | int j => exact of_op op_add ⟨i, j, rfl, rfl, h.here rs (.int _)⟩
      | _ => exact h.elim
    | str a =>
      cases ry with
      | str b =>
        obtain ⟨hl, h⟩ := PostV.need h
        exact of_op op_add_str ⟨a, b, rfl, rfl, hl, h.here rs (.str _)⟩
      | _ => exact h.elim
    | @tup xs a vs hs hv =>
      cases ry with
      | @tup ys b us hs' hu =>
        obtain ⟨hl, h⟩ := PostV.need h
        have hl' : vs.length + us.length ≤ sizeLine := by rw [← hv.length, ← hu.length]; exact hl
        by_cases hx : vs = []
        · subst hx
          cases hv
          exact of_op op_catA ⟨a, b, _, _, rfl, rfl, hs, hs', hl', fun _ => h.here rs (.tup hs' hu), fun z => absurd rfl z, fun z => absurd rfl z⟩
        · refine of_op op_catT ⟨a, b, _, _, rfl, rfl, hs, hs', hx, hl', fun z => ?_, fun _ p hp => h.newT rs (hv.append hu) hp⟩
          subst z
          cases hu
          rw [List.append_nil] at h
          exact h.here rs (.tup hs hv)
      | _ => exact h.elim
    | @ref n a hn =>
      cases ry with
      | @ref m b hm =>
        have h : PostV X.K ρ H (match st[n]?, st[m]? with
          | some (.lst xs), some (.lst ys) => need (xs.length + ys.length ≤ sizeLine) (.ok (.ref st.length) (st ++ [.lst (xs ++ ys)]))
          | _, _ => .stuck) Q := h
        split at h
        · rename_i xs ys e1 e2
          obtain ⟨hl, h⟩ := PostV.need h
          obtain ⟨vs, h1, q1⟩ := rs.at_ e1 hn
          obtain ⟨us, h2, q2⟩ := rs.at_ e2 hm
          exact of_op op_cat ⟨a, b, vs, us, rfl, rfl, h1, h2, by rw [← q1.length, ← q2.length]; exact hl, fun p hp => h.newL rs (q1.append q2) hp⟩
        · exact h.elim
      | _ => exact h.elim
    | _ => exact h.elim
  | sub =>
    cases rx with
    | int i =>
      cases ry with
      | int j => exact of_op op_sub ⟨i, j, rfl, rfl, h.here rs (.int _)⟩
      | _ => exact h.elim
    | _ => exact h.elim
  | mul =>
    cases rx with
    | int i =>
      cases ry with
      | int j =>
        obtain ⟨hl, h⟩ := PostV.need h
        exact of_op op_mul ⟨i, j, rfl, rfl, hl, h.here rs (.int _)⟩
      | _ => exact h.elim
    | @tup xs a vs hs hv =>
      cases ry with
      | int k =>
        obtain ⟨⟨h1, h2, h3, h4⟩, h⟩ := PostV.need h
        refine of_op op_repT ⟨a, k, vs, rfl, rfl, hs, fun z => ?_, h2, h3, by rw [← hv.length]; exact h4, fun p hp => h.newT rs (hv.rep _) hp⟩
        subst z; cases hv; exact h1 rfl
      | _ => exact h.elim
    | @ref n a hn =>
      cases ry with
      | int k =>
        have h : PostV X.K ρ H (match st[n]? with
          | some (.lst xs) => need (-(2 ^ 63) ≤ k ∧ k < 2 ^ 63 ∧ xs.length * k.toNat ≤ sizeLine) (.ok (.ref st.length) (st ++ [.lst (List.replicate k.toNat xs).flatten]))
          | _ => .stuck) Q := h
        split at h
        · rename_i xs e1
          obtain ⟨⟨h1, h2, h3⟩, h⟩ := PostV.need h
          obtain ⟨vs, h4, q1⟩ := rs.at_ e1 hn
          exact of_op op_rep ⟨a, k, vs, rfl, rfl, h4, h1, h2, by rw [← q1.length]; exact h3, fun p hp => h.newL rs (q1.rep _) hp⟩
        · exact h.elim
      | _ => exact h.elim
    | _ => exact h.elim
  | fdiv =>
    cases rx with
    | int i =>
      cases ry with
      | int j =>
        obtain ⟨hl, h⟩ := PostV.need h
        exact of_op op_fdiv ⟨i, j, rfl, rfl, hl, h.here rs (.int _)⟩
      | _ => exact h.elim
    | _ => exact h.elim
  | mod =>
    cases rx with
    | int i =>
      cases ry with
      | int j =>
        obtain ⟨hl, h⟩ := PostV.need h
        exact of_op op_mod ⟨i, j, rfl, rfl, hl, h.here rs (.int _)⟩
      | _ => exact h.elim
    | _ => exact h.elim
  | pow =>
    cases rx with
    | int i =>
      cases ry with
      | int j =>
        obtain ⟨hl, h⟩ := PostV.need h
        exact of_op op_pow ⟨i, j, rfl, rfl, hl, h.here rs (.int _)⟩
      | _ => exact h.elim
    | _ => exact h.elim
theorem scalB_ok {x y : Val} {v u : V} {b : Bool} (rx : RV X.K ρ H x v) (ry : RV X.K ρ H y u) (h : scalB x y = some b) : scal v u = true ∧ decide (v = u) = b := by
  cases rx <;> cases ry <;> first | (cases h; done) | (cases h; refine ⟨rfl, ?_⟩; first | rfl | exact decide_eq_false (fun z => nomatch z) | simp)
theorem eqM_ok {neg : Bool} {x y : Val} {v u : V} (hu : X.A.units + 64 < cLine) (rs : RS X.K ρ H st) (rx : RV X.K ρ H x v) (ry : RV X.K ρ H y u) (h : PostV X.K ρ H (optB (eqM st x y) neg st) Q) :
    WOp X (compareOp (if neg then .NotEq else .Eq)) v u H Q := by
  cases e : eqM st x y with
  | none => rw [e] at h; exact h.elim
  | some b =>
    rw [e] at h
    have q : Q (.bl (if neg then !b else b)) H := PostV.here (st := st) h rs (.bool _)
    unfold eqM at e
    cases e1 : scalB x y with
    | some r =>
      rw [e1] at e
      cases e
      obtain ⟨s1, s2⟩ := scalB_ok rx ry e1
      cases neg with
      | false => exact of_op op_eq ⟨s1, by rw [s2]; exact q⟩
      | true => exact of_op op_ne ⟨s1, by rw [s2]; exact q⟩
    | none =>
      rw [e1] at e
      simp only at e
      split at e
      · rename_i d d' e2 e3
        split at e
        · rename_i hs
          cases e
          have q1 := toD_dp rs _ _ _ _ rx e2
          have q2 := toD_dp rs _ _ _ _ ry e3
          cases neg with
          | false => exact of_op (op_eqD hu) ⟨d, d', q1, q2, hs.1, hs.2, q⟩
          | true => exact of_op (op_neD hu) ⟨d, d', q1, q2, hs.1, hs.2, q⟩
        · cases e
      · cases e
theorem inM_ok {neg : Bool} {x y : Val} {v u : V} (rs : RS X.K ρ H st) (rx : RV X.K ρ H x v) (ry : RV X.K ρ H y u) (h : PostV X.K ρ H (optB (inM st x y) neg st) Q) :
    WOp X (compareOp (if neg then .NotIn else .In)) v u H Q := by
  cases e : inM st x y with
  | none => rw [e] at h; exact h.elim
  | some b =>
    rw [e] at h
    have q : Q (.bl (if neg then !b else b)) H := PostV.here (st := st) h rs (.bool _)
    unfold inM at e
    cases e1 : seqItems st y with
    | none => rw [e1] at e; cases e
    | some xs =>
      rw [e1] at e
      have e : (if flatB x = true ∧ xs.all flatB = true then some (xs.any fun y => flatEq y x) else none) = some b := e
      split at e
      · rename_i hf
        cases e
        obtain ⟨p, vs, rfl, hs, hv⟩ : ∃ p vs, u = .ref p ∧ (SqL X.K H p vs ∨ SqT X.K H p vs) ∧ RVs X.K ρ H xs vs := by
          cases ry with
          | tup a b => cases e1; exact ⟨_, _, rfl, .inr a, b⟩
          | ref hn =>
            obtain ⟨vs, h1, h2⟩ := rs.list e1 hn
            exact ⟨_, _, rfl, .inl h1, h2⟩
          | _ => cases e1
        have i1 := RVs.inV rx hf.1 hv hf.2
        cases neg with
        | false => exact of_op op_in_seq ⟨p, vs, rfl, hs, rx.flat hf.1, hv.flat hf.2, by rw [i1]; exact q⟩
        | true => exact of_op op_notIn_seq ⟨p, vs, rfl, hs, rx.flat hf.1, hv.flat hf.2, by rw [i1]; exact q⟩
      · cases e
theorem cmp_ok {op : Cop} {x y : Val} {v u : V} (hu : X.A.units + 64 < cLine) (rs : RS X.K ρ H st) (rx : RV X.K ρ H x v) (ry : RV X.K ρ H y u) (h : PostV X.K ρ H (cmpop op x y st) Q) : WOp X (compareOp (cmpOf op)) v u H Q := by
  cases op with
  | eq => exact eqM_ok (neg := false) hu rs rx ry h
  | ne => exact eqM_ok (neg := true) hu rs rx ry h
  | isin => exact inM_ok (neg := false) rs rx ry h
  | notin => exact inM_ok (neg := true) rs rx ry h
  | lt =>
    cases rx with
    | int i =>
      cases ry with
      | int j => exact of_op op_lt ⟨i, j, rfl, rfl, h.here rs (.bool _)⟩
      | _ => exact h.elim
    | _ => exact h.elim
  | le =>
    cases rx with
    | int i =>
      cases ry with
      | int j => exact of_op op_le ⟨i, j, rfl, rfl, h.here rs (.bool _)⟩
      | _ => exact h.elim
    | _ => exact h.elim
  | gt =>
    cases rx with
    | int i =>
      cases ry with
      | int j => exact of_op op_gt ⟨i, j, rfl, rfl, h.here rs (.bool _)⟩
      | _ => exact h.elim
    | _ => exact h.elim
  | ge =>
    cases rx with
    | int i =>
      cases ry with
      | int j => exact of_op op_ge ⟨i, j, rfl, rfl, h.here rs (.bool _)⟩
      | _ => exact h.elim
    | _ => exact h.elim
  | is_ =>
    cases ry with
    | none =>
      refine of_op op_isN ⟨rfl, ?_⟩
      cases rx <;> exact PostV.here (st := st) h rs (.bool _)
    | _ => exact h.elim
  | isnot =>
    cases ry with
    | none =>
      refine of_op op_notN ⟨rfl, ?_⟩
      cases rx <;> exact PostV.here (st := st) h rs (.bool _)
    | _ => exact h.elim
/-- a value's truth -/
theorem truth_ok {x : Val} {v : V} {b : Bool} (rs : RS X.K ρ H st) (rx : RV X.K ρ H x v) (h : truth st x = some b) : TruV X.K v H b := by
  cases rx with
  | none => cases h; rfl
  | bool c => cases h; rfl
  | int i => cases h; rfl
  | str s =>
    have h : (if s.length ≤ sizeLine then some ((s.length : Int) != 0) else none) = some b := h
    split at h
    · cases h; exact ⟨by assumption, rfl⟩
    · cases h
  | tup a c => cases h; exact .inr (.inl ⟨_, a, by rw [c.isEmpty]⟩)
  | @ref n a hn =>
    have h : (listAt st n).map (fun xs => !xs.isEmpty) = some b := h
    cases e : listAt st n with
    | none => rw [e] at h; cases h
    | some xs =>
      rw [e] at h
      cases h
      obtain ⟨vs, h1, h2⟩ := rs.list e hn
      exact .inl ⟨vs, h1, congrArg not h2.isEmpty⟩
end
end Ev

set_option Elab.async false
set_option linter.all false
set_option maxRecDepth 100000
set_option maxHeartbeats 4000000
/-! ## Subscripts, built-in functions, methods -/
namespace L2
open PySem PySem.Spec PyProof.Rows
def rCntF (K : PySem.W.Frag) : V → List V → Hp → VK → Prop := fun x xs H Q => ∃ (a : Addr) (ys : List V) (y : V), x = .ref a ∧ xs = [y] ∧ SqL K H a ys ∧ flatV y = true ∧ ys.all flatV = true ∧ Q (.int ((ys.countP fun z => eqV z y) : Nat)) H
theorem countU {y : V} : ∀ {ys : List V} {its : List Value}, Vals ys its → ys.all flatV = true → its.countP (eqU y) = ys.countP fun z => eqV z y
  | _, _, .nil, _ => rfl
  | _, _, .cons r t, h => by
    simp only [List.all_cons, Bool.and_eq_true] at h
    rw [List.countP_cons, List.countP_cons, countU t h.2, eqU_of r h.1]
theorem mt_countF {X : Cx} : MtR X "list.count" (rCntF X.K) := by
  intro pins s σ H x xs v us Q I rx rxs h
  obtain ⟨a, ys, y, rfl, rfl, hs, fy, fys, q⟩ := h
  cases rx
  cases rxs with
  | cons ry rt =>
    rename_i uy ut
    cases rt
    obtain ⟨its, rv, ⟨⟨cls, dd, data, sl⟩, n, ho, hc, hdn, hd⟩, hlen⟩ := I.list hs
    simp only at hc hd
    subst hc hd
    refine call_meets PySem.F.slot_list_count ⟨_, ho, rfl⟩ PySem.F.entry_list_count (PySem.F.args_list_count_2 _ _)
      (SeqAt.list_countAt a its.toArray n dd sl uy (eqU y)) ⟨ho, fun u' hu' => mem_eqAt ry fy rv fys u' (by simpa using hu'), ?_⟩
    have ec : its.toArray.toList.countP (eqU y) = ys.countP fun z => eqV z y := countU rv fys
    refine ⟨.int ((ys.countP fun z => eqV z y) : Nat), H, I.tok _, ⟨s.toks, ?_⟩, q⟩
    show Value.int ((its.toArray.toList.countP (eqU y) : Nat) : Int) s.toks = Value.int (((ys.countP fun z => eqV z y) : Nat) : Int) s.toks
    rw [ec]
end L2
namespace Ev
open PySem PySem.Spec PyProof.Rows L2

def WIx (X : Cx) : R2 := fun x y H Q => ∀ (value slice : Expr) (pins : List (Addr × Obj)) (s : Shared) (σ : L2.St) (v u : Value), Inv X pins σ H s → RelV x v → RelV y u →
    subscripted slice false v u = operate [v, u] (getItem v u) → wpAny (model X.prog X.w) X.A (subscriptTail value slice v u) (EP X pins σ Q) X.xe s
theorem WIx.r {X : Cx} : IxR X (WIx X) := fun value slice pins s σ _ _ _ v u _ I rx ry h hs => h value slice pins s σ v u I rx ry hs
theorem of_ix {X : Cx} {r : R2} {x y : V} {H : Hp} {Q : VK} (h : IxR X r) (q : r x y H Q) : WIx X x y H Q := fun value slice pins s σ v u I rx ry hs => h value slice pins s σ H x y v u Q I rx ry q hs
def WSl (X : Cx) : V → Option Int → Option Int → Hp → VK → Prop := fun x lo hi H Q => ∀ (pins : List (Addr × Obj)) (s : Shared) (σ : L2.St) (v vl vu : Value) (sl : Addr), Inv X pins σ H s → RelV x v → s.heap.IsSliceOf sl vl vu .none → IsPart vl lo → IsPart vu hi →
    ∃ T id, typeLookup (.type T) "__getitem__" = pure (some (.builtin id)) ∧ s.TypeIs v T ∧ wpAny (model X.prog X.w) X.A (getItem v (.ref sl)) (EP X pins σ Q) X.xe s
theorem WSl.r {X : Cx} : SlR X (WSl X) := fun pins s σ _ _ v vl vu _ _ sl _ I rx hs pl pu h => h pins s σ v vl vu sl I rx hs pl pu
theorem of_sl {X : Cx} {r : V → Option Int → Option Int → Hp → VK → Prop} {x : V} {lo hi : Option Int} {H : Hp} {Q : VK} (h : SlR X r) (q : r x lo hi H Q) : WSl X x lo hi H Q := fun pins s σ v vl vu sl I rx hs pl pu => h pins s σ H x v vl vu lo hi sl Q I rx hs pl pu q
def WMt (X : Cx) (id : String) : V → List V → Hp → VK → Prop := fun x xs H Q => ∀ (pins : List (Addr × Obj)) (s : Shared) (σ : L2.St) (v : Value) (us : List Value), Inv X pins σ H s → RelV x v → Vals xs us → wpAny (model X.prog X.w) X.A (call (.builtin id) (v :: us)) (EP X pins σ Q) X.xe s
theorem WMt.r {X : Cx} {id : String} : MtR X id (WMt X id) := fun pins s σ _ _ _ v us _ I rx rs h => h pins s σ v us I rx rs
theorem of_mt {X : Cx} {id : String} {r : V → List V → Hp → VK → Prop} {x : V} {xs : List V} {H : Hp} {Q : VK} (h : MtR X id r) (q : r x xs H Q) : WMt X id x xs H Q := fun pins s σ v us I rx rs => h pins s σ H x xs v us Q I rx rs q

section
variable {X : Cx} {ρ : List Addr} {H : Hp} {st : Store} {Q : VK}
/-- d[k] -/
theorem ix_dict (hu : X.A.units + 1 < cLine) : IxR X (fun x y H Q => ∃ a v, x = .ref a ∧ DGet H a y (some v) ∧ Q v H) := by
  intro value slice pins s σ H x y v u Q I rx ry h hs
  obtain ⟨a, w, rfl, g, q⟩ := h
  obtain rfl : v = Value.ref a := rx
  exact tail_any (dict_typeIs I g) PySem.F.slot_dict_getitem.lookup (d_getItem hu I g ry fun w' s3 I3 rw' => ⟨w, H, I3, rw', q⟩) hs
theorem keyOf_ok {x : Val} {v : V} {k : Sum Int Str} (rx : RV X.K ρ H x v) (h : keyOf x = some k) : v = kV k := by
  cases rx <;> first | (cases h; done) | (cases h; rfl)
theorem ix_ok {x y : Val} {v u : V} (hu : X.A.units + 64 < cLine) (rs : RS X.K ρ H st) (rx : RV X.K ρ H x v) (ry : RV X.K ρ H y u) (h : PostV X.K ρ H (ixop x y st) Q) : WIx X v u H Q := by
  cases rx with
  | @tup xs a vs hs hv =>
    cases ry with
    | int k =>
      replace h : PostV X.K ρ H (match L2.atI xs k with | some v => .ok v st | none => .stuck) Q := h
      cases e : L2.atI xs k with
      | none => rw [e] at h; exact h.elim
      | some z =>
        rw [e] at h
        obtain ⟨w, h1, h2⟩ := hv.at_ e
        exact of_ix ix_tup ⟨a, vs, k, w, rfl, rfl, hs, h1, h.here rs h2⟩
    | _ => exact h.elim
  | str s =>
    cases ry with
    | int k =>
      replace h : PostV X.K ρ H (match L2.atI s.cps.toList k with | some c => need (s.length ≤ sizeLine) (.ok (.str ⟨#[c]⟩) st) | none => .stuck) Q := h
      cases e : L2.atI s.cps.toList k with
      | none => rw [e] at h; exact h.elim
      | some c =>
        rw [e] at h
        obtain ⟨hl, h⟩ := PostV.need h
        exact of_ix ix_str ⟨s, k, c, rfl, rfl, hl, e, h.here rs (.str _)⟩
    | _ => exact h.elim
  | @ref n a hn =>
    replace h : PostV X.K ρ H (match (st[n]?).bind fun c => ixCell c y with | some v => .ok v st | none => .stuck) Q := h
    cases e1 : st[n]? with
    | none => rw [e1] at h; exact h.elim
    | some c =>
      rw [e1] at h
      replace h : PostV X.K ρ H (match ixCell c y with | some v => .ok v st | none => .stuck) Q := h
      cases e : ixCell c y with
      | none => rw [e] at h; exact h.elim
      | some z =>
        rw [e] at h
        cases c with
        | lst xs =>
          cases ry with
          | int k =>
            obtain ⟨vs, h1, hv⟩ := rs.at_ e1 hn
            obtain ⟨w, h2, h3⟩ := hv.at_ e
            exact of_ix ix_list ⟨a, vs, k, w, rfl, rfl, SqL.of h1, h2, h.here rs h3⟩
          | _ => cases e
        | ro xs =>
          cases ry with
          | int k =>
            obtain ⟨vs, h1, hv⟩ := rs.list (st := st) (n := n) (xs := xs) (by unfold listAt; rw [e1]) hn
            obtain ⟨w, h2, h3⟩ := hv.at_ e
            exact of_ix ix_list ⟨a, vs, k, w, rfl, rfl, h1, h2, h.here rs h3⟩
          | _ => cases e
        | dict kvs =>
          have e : (keyOf y).bind (valK kvs) = some z := e
          cases ek : keyOf y with
          | none => rw [ek] at e; cases e
          | some kk =>
            rw [ek] at e
            have e : valK kvs kk = some z := e
            obtain ⟨ws, h1, hv⟩ := rs.at_ e1 hn
            rcases hv.val (k := kk) with ⟨z1, _⟩ | ⟨x', w, z1, z2, z3⟩
            · rw [z1] at e; cases e
            · rw [z1] at e; cases e
              have := keyOf_ok ry ek
              subst this
              exact of_ix (ix_dict (by omega)) ⟨a, w, rfl, by rw [← z2]; exact DGet.k h1, h.here rs z3⟩
        | inst _ _ => cases e
  | _ => exact h.elim
theorem sl_ok {x : Val} {v : V} {lo hi : Option Int} (rs : RS X.K ρ H st) (rx : RV X.K ρ H x v)
    (h : PostV X.K ρ H (sliceop x lo hi st) Q) : WSl X v lo hi H Q := by
  cases rx with
  | @tup xs a vs hs hv =>
    refine of_sl sl_tupA ⟨a, vs, rfl, hs, fun z => ?_, fun z p hp => PostV.newT (st := st) h rs (hv.cut lo hi) hp⟩
    have e : cut xs lo hi = xs := by
      unfold cut
      rw [hv.length, z.1, z.2, List.drop_zero, Nat.sub_zero, ← hv.length, List.take_length]
    replace h : PostV X.K ρ H (.ok (.tup (cut xs lo hi)) st) Q := h
    rw [e] at h
    exact h.here rs (.tup hs hv)
  | @ref n a hn =>
    replace h : PostV X.K ρ H (match listAt st n with
      | some xs => .ok (.ref st.length) (st ++ [.lst (cut xs lo hi)])
      | none => .stuck) Q := h
    cases e : listAt st n with
    | none => rw [e] at h; exact h.elim
    | some xs =>
      rw [e] at h
      obtain ⟨vs, h1, hv⟩ := rs.list e hn
      exact of_sl sl_list ⟨a, vs, rfl, h1, fun p hp => h.newL rs (hv.cut lo hi) hp⟩
  | _ => exact h.elim

/-! ### built-in functions -/
def biName : Bi → Str
  | .len => "len" | .abs => "abs" | .max => "max" | .min => "min" | .sum => "sum" | .all => "all" | .int => "int" | .str => "str" | .list => "list" | .tuple => "tuple"
def biVal : Bi → Value
  | .len => .builtin "len" | .abs => .builtin "abs" | .max => .builtin "max" | .min => .builtin "min" | .sum => .builtin "sum" | .all => .builtin "all" | .int => .type "int" | .str => .type "str" | .list => .type "list" | .tuple => .type "tuple"
theorem maxI_ok : ∀ {ns : List Int} {m k : Int}, maxI ns = some m → k ∈ ns → (∀ y ∈ ns, y ≤ k) → k = m := by
  intro ns m k h hk hl
  cases ns with
  | nil => cases h
  | cons x xs =>
    cases h
    have key : ∀ (xs : List Int) (a : Int), (∀ y ∈ a :: xs, y ≤ xs.foldl (fun a b => if b > a then b else a) a) ∧ xs.foldl (fun a b => if b > a then b else a) a ∈ a :: xs := by
      intro xs
      induction xs with
      | nil => intro a; simp
      | cons z zs ih =>
        intro a
        rw [List.foldl_cons]
        obtain ⟨i1, i2⟩ := ih (if z > a then z else a)
        refine ⟨fun y hy => ?_, ?_⟩
        · have i0 := i1 _ List.mem_cons_self
          have i3 : (if z > a then z else a) ≥ a ∧ (if z > a then z else a) ≥ z := by split <;> omega
          simp only [List.mem_cons] at hy
          rcases hy with e | e | e
          · subst e; omega
          · subst e; omega
          · exact i1 y (List.mem_cons_of_mem _ e)
        · simp only [List.mem_cons] at i2 ⊢
          rcases i2 with e | e
          · rw [e]; split
            · exact .inr (.inl rfl)
            · exact .inl rfl
          · exact .inr (.inr e)
    obtain ⟨k1, k2⟩ := key xs x
    have a1 := k1 k hk
    have a2 := hl _ k2
    omega
theorem minI_ok : ∀ {ns : List Int} {m k : Int}, minI ns = some m → k ∈ ns → (∀ y ∈ ns, k ≤ y) → k = m := by
  intro ns m k h hk hl
  cases ns with
  | nil => cases h
  | cons x xs =>
    cases h
    have key : ∀ (xs : List Int) (a : Int), (∀ y ∈ a :: xs, xs.foldl (fun a b => if b < a then b else a) a ≤ y) ∧ xs.foldl (fun a b => if b < a then b else a) a ∈ a :: xs := by
      intro xs
      induction xs with
      | nil => intro a; simp
      | cons z zs ih =>
        intro a
        rw [List.foldl_cons]
        obtain ⟨i1, i2⟩ := ih (if z < a then z else a)
        refine ⟨fun y hy => ?_, ?_⟩
        · have i0 := i1 _ List.mem_cons_self
          have i3 : (if z < a then z else a) ≤ a ∧ (if z < a then z else a) ≤ z := by split <;> omega
          simp only [List.mem_cons] at hy
          rcases hy with e | e | e
          · subst e; omega
          · subst e; omega
          · exact i1 y (List.mem_cons_of_mem _ e)
        · simp only [List.mem_cons] at i2 ⊢
          rcases i2 with e | e
          · rw [e]; split
            · exact .inr (.inl rfl)
            · exact .inl rfl
          · exact .inr (.inr e)
    obtain ⟨k1, k2⟩ := key xs x
    have a1 := k1 k hk
    have a2 := hl _ k2
    omega
theorem bi_ok {b : Bi} {xs : List Val} {vs : List V} (hc : X.calm = true) (rs : RS X.K ρ H st) (rx : RVs X.K ρ H xs vs) (h : PostV X.K ρ H (bifn b xs st) Q) : WCall X (biVal b) vs H Q := by
  cases rx with
  | nil => cases b <;> exact h.elim
  | @cons x v xs' vs' r1 rx' =>
    cases rx' with
    | cons r2 rx'' =>
      cases rx'' with
      | cons _ _ => cases b <;> first | exact h.elim | (cases r1 <;> first | exact h.elim | (cases r2 <;> exact h.elim))
      | nil =>
        cases b with
        | max =>
          cases r1 with
          | int i =>
            cases r2 with
            | int j => exact of_call (call_max2 hc) ⟨i, j, rfl, h.here rs (.int _)⟩
            | _ => exact h.elim
          | _ => exact h.elim
        | min =>
          cases r1 with
          | int i =>
            cases r2 with
            | int j => exact of_call (call_min2 hc) ⟨i, j, rfl, h.here rs (.int _)⟩
            | _ => exact h.elim
          | _ => exact h.elim
        | _ => cases r1 <;> first | exact h.elim | (cases r2 <;> exact h.elim)
    | nil =>
      cases b with
      | len =>
        cases r1 with
        | @tup xs a vs hs hv =>
          replace h : PostV X.K ρ H (.ok (.int xs.length) st) Q := h
          rw [hv.length] at h
          exact of_call call_len_seq ⟨a, vs, rfl, .inr hs, h.here rs (.int _)⟩
        | str s =>
          obtain ⟨hl, h⟩ := PostV.need h
          exact of_call call_len ⟨.str s, s.length, rfl, ⟨hl, rfl⟩, h.here rs (.int _)⟩
        | @ref n a hn =>
          replace h : PostV X.K ρ H (match listAt st n with | some xs => .ok (.int xs.length) st | none => .stuck) Q := h
          cases e : listAt st n with
          | none => rw [e] at h; exact h.elim
          | some xs =>
            rw [e] at h
            obtain ⟨vs, h1, hv⟩ := rs.list e hn
            replace h : PostV X.K ρ H (.ok (.int xs.length) st) Q := h
            rw [hv.length] at h
            exact of_call call_len_seq ⟨a, vs, rfl, .inl h1, h.here rs (.int _)⟩
        | _ => exact h.elim
      | abs =>
        cases r1 with
        | int i => exact of_call call_abs ⟨i, rfl, h.here rs (.int _)⟩
        | _ => exact h.elim
      | max =>
        cases r1 with
        | @ref n a hn =>
          replace h : PostV X.K ρ H (match (listAt st n).bind fun xs => (allInts xs).bind maxI with | some m => .ok (.int m) st | none => .stuck) Q := h
          cases e : listAt st n with
          | none => rw [e] at h; exact h.elim
          | some xs =>
            rw [e] at h
            replace h : PostV X.K ρ H (match (allInts xs).bind maxI with | some m => .ok (.int m) st | none => .stuck) Q := h
            cases e2 : allInts xs with
            | none => rw [e2] at h; exact h.elim
            | some ns =>
              rw [e2] at h
              replace h : PostV X.K ρ H (match maxI ns with | some m => .ok (.int m) st | none => .stuck) Q := h
              obtain ⟨vs, h1, hv⟩ := rs.list e hn
              cases e3 : maxI ns with
              | none => rw [e3] at h; exact h.elim
              | some m =>
                rw [e3] at h
                have hv2 := hv.ints e2
                subst hv2
                refine of_call (cr_max hc) ⟨a, ns, rfl, h1, ?_, fun k hk hl => ?_⟩
                · cases ns with
                  | nil => cases e3
                  | cons _ _ => simp
                · rw [maxI_ok e3 hk hl]; exact h.here rs (.int _)
        | _ => exact h.elim
      | min =>
        cases r1 with
        | @ref n a hn =>
          replace h : PostV X.K ρ H (match (listAt st n).bind fun xs => (allInts xs).bind minI with | some m => .ok (.int m) st | none => .stuck) Q := h
          cases e : listAt st n with
          | none => rw [e] at h; exact h.elim
          | some xs =>
            rw [e] at h
            replace h : PostV X.K ρ H (match (allInts xs).bind minI with | some m => .ok (.int m) st | none => .stuck) Q := h
            cases e2 : allInts xs with
            | none => rw [e2] at h; exact h.elim
            | some ns =>
              rw [e2] at h
              replace h : PostV X.K ρ H (match minI ns with | some m => .ok (.int m) st | none => .stuck) Q := h
              obtain ⟨vs, h1, hv⟩ := rs.list e hn
              cases e3 : minI ns with
              | none => rw [e3] at h; exact h.elim
              | some m =>
                rw [e3] at h
                have hv2 := hv.ints e2
                subst hv2
                refine of_call (cr_min hc) ⟨a, ns, rfl, h1, ?_, fun k hk hl => ?_⟩
                · cases ns with
                  | nil => cases e3
                  | cons _ _ => simp
                · rw [minI_ok e3 hk hl]; exact h.here rs (.int _)
        | _ => exact h.elim
      | sum =>
        cases r1 with
        | @ref n a hn =>
          replace h : PostV X.K ρ H (match (listAt st n).bind allInts with | some ns => .ok (.int ns.sum) st | none => .stuck) Q := h
          cases e : listAt st n with
          | none => rw [e] at h; exact h.elim
          | some xs =>
            rw [e] at h
            replace h : PostV X.K ρ H (match allInts xs with | some ns => .ok (.int ns.sum) st | none => .stuck) Q := h
            cases e2 : allInts xs with
            | none => rw [e2] at h; exact h.elim
            | some ns =>
              rw [e2] at h
              obtain ⟨vs, h1, hv⟩ := rs.list e hn
              have hv2 := hv.ints e2
              subst hv2
              exact of_call (cr_sum hc) ⟨a, ns, rfl, h1, h.here rs (.int _)⟩
        | _ => exact h.elim
      | all =>
        cases r1 with
        | @ref n a hn =>
          replace h : PostV X.K ρ H (match (listAt st n).bind allBools with | some ns => .ok (.bool (ns.all id)) st | none => .stuck) Q := h
          cases e : listAt st n with
          | none => rw [e] at h; exact h.elim
          | some xs =>
            rw [e] at h
            replace h : PostV X.K ρ H (match allBools xs with | some ns => .ok (.bool (ns.all id)) st | none => .stuck) Q := h
            cases e2 : allBools xs with
            | none => rw [e2] at h; exact h.elim
            | some ns =>
              rw [e2] at h
              obtain ⟨vs, h1, hv⟩ := rs.list e hn
              have hv2 := hv.bools e2
              subst hv2
              exact of_call (cr_all hc) ⟨a, ns, rfl, h1, h.here rs (.bool _)⟩
        | _ => exact h.elim
      | int =>
        cases r1 with
        | int i => exact of_call call_int1 (.inl ⟨i, rfl, h.here rs (.int _)⟩)
        | bool i => exact of_call call_int1 (.inr ⟨i, rfl, h.here rs (.int _)⟩)
        | str s =>
          replace h : PostV X.K ρ H (match PySem.intText? s with | some n => need (s.length ≤ 640) (.ok (.int n) st) | none => .stuck) Q := h
          cases e : PySem.intText? s with
          | none => rw [e] at h; exact h.elim
          | some n =>
            rw [e] at h
            obtain ⟨hl, h⟩ := PostV.need h
            exact of_call call_int_str ⟨s, n, rfl, e, hl, h.here rs (.int _)⟩
        | _ => exact h.elim
      | str => cases r1 <;> exact h.elim
      | list =>
        cases r1 with
        | @tup xs a vs hs hv => exact of_call call_list_of ⟨a, vs, rfl, .inr hs, fun l hl => PostV.newL h rs hv hl⟩
        | @ref n a hn =>
          replace h : PostV X.K ρ H (match listAt st n with | some xs => .ok (.ref st.length) (st ++ [.lst xs]) | none => .stuck) Q := h
          cases e : listAt st n with
          | none => rw [e] at h; exact h.elim
          | some xs =>
            rw [e] at h
            obtain ⟨vs, h1, hv⟩ := rs.list e hn
            exact of_call call_list_of ⟨a, vs, rfl, .inl h1, fun l hl => h.newL rs hv hl⟩
        | _ => exact h.elim
      | tuple =>
        cases r1 with
        | @tup xs a vs hs hv => exact of_call call_tuple_of ⟨a, vs, rfl, .inr ⟨hs, h.here rs (.tup hs hv)⟩⟩
        | @ref n a hn =>
          replace h : PostV X.K ρ H (match listAt st n with | some xs => .ok (.tup xs) st | none => .stuck) Q := h
          cases e : listAt st n with
          | none => rw [e] at h; exact h.elim
          | some xs =>
            rw [e] at h
            obtain ⟨vs, h1, hv⟩ := rs.list e hn
            exact of_call call_tuple_of ⟨a, vs, rfl, .inl ⟨h1, fun l hl => h.newT rs hv hl⟩⟩
        | _ => exact h.elim

/-! ### isinstance -/
def tyStr : Ty → Str
  | .int => "int" | .bool => "bool" | .str => "str" | .tuple => "tuple" | .list => "list"
def tyNm : Ty → String
  | .int => "int" | .bool => "bool" | .str => "str" | .tuple => "tuple" | .list => "list"
theorem tyX_tup {a : Addr} {vs : List V} (h : SqT X.K H a vs) : TyX X.K H (.ref a) (.type "tuple") := by
  rcases h with (h | ⟨o, h⟩) | ⟨o, its, n, h1, h2, _⟩
  · exact .base (.tup h)
  · exact .fTuple h
  · exact .kTuple h1 h2
theorem isi_ok {t : Ty} {x : Val} {v : V} {b : Bool} (rs : RS X.K ρ H st) (rx : RV X.K ρ H x v) (h : isInst t st x = some b) (q : Q (.bl b) H) : rIsi X.K [v, .ty (tyNm t)] H Q := by
  cases rx with
  | none => cases h; exact ⟨_, _, _, _, false, rfl, .ty _, .base .non, kit_ty (by cases t <;> decide +kernel), q⟩
  | bool c => cases h; exact ⟨_, _, _, _, _, rfl, .ty _, .base (.bl c), kit_ty (by cases t <;> decide +kernel), q⟩
  | int c => cases h; exact ⟨_, _, _, _, _, rfl, .ty _, .base (.int c), kit_ty (by cases t <;> decide +kernel), q⟩
  | str c => cases h; exact ⟨_, _, _, _, _, rfl, .ty _, .base (.str c), kit_ty (by cases t <;> decide +kernel), q⟩
  | tup hs hv => cases h; exact ⟨_, _, _, _, _, rfl, .ty _, tyX_tup hs, kit_ty (by cases t <;> decide +kernel), q⟩
  | @ref n a hn =>
    replace h : (match st[n]? with
      | some (.lst _) => some (decide (t = .list))
      | _ => none) = some b := h
    split at h
    · rename_i xs e
      cases h
      obtain ⟨vs, h1, _⟩ := rs.at_ e hn
      exact ⟨_, _, _, _, _, rfl, .ty _, .base (.lst h1), kit_ty (by cases t <;> decide +kernel), q⟩
    · cases h

/-! ### methods -/
def mtName : Mt → Str
  | .append => "append" | .extend => "extend" | .pop => "pop" | .count => "count" | .index => "index" | .get => "get"
def mtId : Mt → String
  | .append => "list.append" | .extend => "list.extend" | .pop => "list.pop" | .count => "list.count" | .index => "list.index" | .get => "dict.get"
def mtTy : Mt → String
  | .get => "dict"
  | _ => "list"
theorem mt_get (hu : X.A.units + 1 < cLine) : MtR X "dict.get" (fun x xs H Q => ∃ a y z o, x = .ref a ∧ xs = [y, z] ∧ DGet H a y o ∧ Q (o.getD z) H) := by
  intro pins s σ H x xs v us Q I rx rs h
  obtain ⟨a, y, z, o, rfl, rfl, g, q⟩ := h
  obtain rfl : v = Value.ref a := rx
  cases rs with
  | cons r1 rs =>
    cases rs with
    | cons r2 rs =>
      cases rs
      exact d_get2 hu I g r1 r2 fun w' s4 I4 rw' => ⟨_, H, I4, rw', q⟩
/-- the receiver is of the method's type -/
theorem mt_ty {m : Mt} {x : Val} {v : V} (rs : RS X.K ρ H st) (rx : RV X.K ρ H x v) (h : mtOk m x st = true) : tyV X.K (mtTy m) v H := by
  cases rx with
  | @ref n a hn =>
    have key : ∀ T, (listAt st n).isSome = true → T = "list" → tyV X.K T (.ref a) H := fun T h e => by
      obtain ⟨xs, e1⟩ := Option.isSome_iff_exists.mp h
      obtain ⟨vs, h1, _⟩ := rs.list e1 hn
      exact .inl ⟨e, vs, h1⟩
    cases m with
    | get =>
      have h : (match st[n]? with | some (.dict _) => true | _ => false) = true := h
      split at h
      · rename_i kvs e
        obtain ⟨ws, h1, _⟩ := rs.at_ e hn
        exact .inr (.inr (.inl ⟨rfl, .inl ⟨ws, h1⟩⟩))
      · cases h
    | _ => exact key _ h rfl
  | _ => cases h
theorem meth_ok {m : Mt} {x : Val} {v : V} {xs : List Val} {vs : List V} (hu : X.A.units + 64 < cLine) (rs : RS X.K ρ H st) (rx : RV X.K ρ H x v) (rl : RVs X.K ρ H xs vs) (h : PostV X.K ρ H (metop m x xs st) Q) : WMt X (mtId m) v vs H Q := by
  cases m with
  | append =>
    cases rx with
    | @ref n a hn =>
      cases rl with
      | nil => exact h.elim
      | @cons y u ys us r1 rl' =>
        cases rl' with
        | cons _ _ => exact h.elim
        | nil =>
          replace h : PostV X.K ρ H (match st[n]? with
            | some (.lst xs) => need (xs.length < sizeLine) (.ok .none (st.set n (.lst (xs ++ [y]))))
            | _ => .stuck) Q := h
          split at h
          · rename_i zs e
            obtain ⟨hl, h⟩ := PostV.need h
            obtain ⟨ws, h1, hv⟩ := rs.at_ e hn
            refine of_mt (show MtR X "list.append" rAppend from mt_append) ⟨a, ws, u, rfl, rfl, h1, by rw [← hv.length]; exact hl, ?_⟩
            have hg : Gr X.K H (upd H a (.lst (ws ++ [u]))) := Gr.write h1 (fun _ z => nomatch z) (fun _ _ z => nomatch z)
            exact h .non _ ρ Ex.refl hg (rs.write e hn rfl rfl hg ⟨_, upd_same, RVs.mono Ex.refl hg _ _ (hv.append (.cons r1 .nil))⟩) .none
          · exact h.elim
    | _ => exact h.elim
  | count =>
    cases rx with
    | @ref n a hn =>
      cases rl with
      | nil => exact h.elim
      | cons r1 rl' =>
        cases rl' with
        | cons _ _ => cases r1 <;> exact h.elim
        | nil =>
          cases r1 with
          | int k =>
            replace h : PostV X.K ρ H (match (listAt st n).bind allInts with | some ns => .ok (.int (ns.count k : Nat)) st | none => .stuck) Q := h
            cases e : listAt st n with
            | none => rw [e] at h; exact h.elim
            | some zs =>
              rw [e] at h
              replace h : PostV X.K ρ H (match allInts zs with | some ns => .ok (.int (ns.count k : Nat)) st | none => .stuck) Q := h
              cases e2 : allInts zs with
              | none => rw [e2] at h; exact h.elim
              | some ns =>
                rw [e2] at h
                obtain ⟨ws, h1, hv⟩ := rs.list e hn
                have hv2 := hv.ints e2
                subst hv2
                exact of_mt mt_lcount ⟨a, ns, k, rfl, rfl, h1, h.here rs (.int _)⟩
          | bool k =>
            replace h : PostV X.K ρ H (match listAt st n with | some xs => if xs.all flatB = true then .ok (.int ((xs.countP fun x => flatEq x (.bool k)) : Nat)) st else .stuck | none => .stuck) Q := h
            cases e : listAt st n with
            | none => rw [e] at h; exact h.elim
            | some zs =>
              rw [e] at h
              replace h : PostV X.K ρ H (if zs.all flatB = true then .ok (.int ((zs.countP fun x => flatEq x (.bool k)) : Nat)) st else .stuck) Q := h
              split at h
              · rename_i hf
                obtain ⟨ws, h1, hv⟩ := rs.list e hn
                have hc := hv.countF (.bool k) rfl hf
                refine of_mt mt_countF ⟨a, ws, .bl k, rfl, rfl, h1, rfl, hv.flat hf, ?_⟩
                rw [hc]
                exact h.here rs (.int _)
              · exact h.elim
          | _ => exact h.elim
    | _ => exact h.elim
  | pop =>
    cases rx with
    | @ref n a hn =>
      cases rl with
      | cons _ _ => exact h.elim
      | nil =>
        replace h : PostV X.K ρ H (match st[n]? with
          | some (.lst xs) => (match xs.getLast? with | some y => .ok y (st.set n (.lst xs.dropLast)) | none => .stuck)
          | _ => .stuck) Q := h
        split at h
        · rename_i zs e
          cases e2 : zs.getLast? with
          | none => rw [e2] at h; exact h.elim
          | some y =>
            rw [e2] at h
            obtain ⟨ws, h1, hv⟩ := rs.at_ e hn
            rw [List.getLast?_eq_getElem?] at e2
            obtain ⟨u, h2, h3⟩ := hv.get e2
            refine of_mt (show MtR X "list.pop" rPop from mt_pop) ⟨a, ws, u, rfl, rfl, h1, by rw [← hv.length]; exact h2, ?_⟩
            have hg : Gr X.K H (upd H a (.lst ws.dropLast)) := Gr.write h1 (fun _ z => nomatch z) (fun _ _ z => nomatch z)
            have hd : RVs X.K ρ H zs.dropLast ws.dropLast := by
              rw [List.dropLast_eq_take, List.dropLast_eq_take, hv.length]
              exact hv.take _
            exact h u _ ρ Ex.refl hg (rs.write e hn rfl rfl hg ⟨_, upd_same, RVs.mono Ex.refl hg _ _ hd⟩) (RV.mono Ex.refl hg _ _ h3)
        · exact h.elim
    | _ => exact h.elim
  | get =>
    cases rx with
    | @ref n a hn =>
      cases rl with
      | nil => exact h.elim
      | @cons y u ys us r1 rl' =>
        cases rl' with
        | nil => exact h.elim
        | @cons z t zs ts r2 rl'' =>
          cases rl'' with
          | cons _ _ => exact h.elim
          | nil =>
            replace h : PostV X.K ρ H (match st[n]?, keyOf y with
              | some (.dict kvs), some x => .ok ((valK kvs x).getD z) st
              | _, _ => .stuck) Q := h
            split at h
            · rename_i kvs k e1 e2
              obtain ⟨ws, h1, hv⟩ := rs.at_ e1 hn
              have := keyOf_ok r1 e2
              subst this
              refine of_mt (mt_get (by omega)) ⟨a, kV k, t, _, rfl, rfl, DGet.k h1, ?_⟩
              rcases hv.val (k := k) with ⟨z1, z2⟩ | ⟨x', w, z1, z2, z3⟩
              · rw [z2]; rw [z1] at h; exact h.here rs r2
              · rw [z2]; rw [z1] at h; exact h.here rs z3
            · exact h.elim
    | _ => exact h.elim
  | extend => cases rx <;> exact h.elim
  | index =>
    cases rx with
    | @ref n a hn =>
      cases rl with
      | nil => exact h.elim
      | @cons y u ys us r1 rl' =>
        cases rl' with
        | cons _ _ => exact h.elim
        | nil =>
          replace h : PostV X.K ρ H (match listAt st n with
            | some xs => if flatB y = true ∧ xs.all flatB = true then (match xs.findIdx? fun x => flatEq x y with | some j => Res.ok (Val.int (j : Nat)) st | none => .stuck) else .stuck
            | none => .stuck) Q := h
          cases e : listAt st n with
          | none => rw [e] at h; exact h.elim
          | some zs =>
            rw [e] at h
            replace h : PostV X.K ρ H (if flatB y = true ∧ zs.all flatB = true then (match zs.findIdx? fun x => flatEq x y with | some j => Res.ok (Val.int (j : Nat)) st | none => .stuck) else .stuck) Q := h
            by_cases c : flatB y = true ∧ zs.all flatB = true
            · rw [if_pos c] at h
              cases e2 : zs.findIdx? (fun x => Ev.flatEq x y) with
              | none => rw [e2] at h; exact h.elim
              | some j =>
                rw [e2] at h
                obtain ⟨ws, h1, hv⟩ := rs.list e hn
                obtain ⟨hj, hp, hno⟩ := List.findIdx?_eq_some_iff_getElem.mp e2
                have fz : ∀ (m : Nat) (hm : m < zs.length), flatB zs[m] = true := fun m hm => List.all_eq_true.mp c.2 _ (List.getElem_mem hm)
                obtain ⟨w, h2, h3⟩ := hv.get (List.getElem?_eq_getElem hj)
                refine of_mt mt_index ⟨a, ws, u, j, w, rfl, rfl, h1, r1.flat c.1, hv.flat c.2, h2, by rw [RV.flatEq h3 r1 (fz j hj) c.1]; exact hp, fun m z' hm hz' => ?_, h.here rs (.int _)⟩
                have hml : m < zs.length := by omega
                obtain ⟨w', h4, h5⟩ := hv.get (List.getElem?_eq_getElem hml)
                rw [hz'] at h4
                cases h4
                rw [RV.flatEq h5 r1 (fz m hml) c.1]
                have := hno m hm
                simpa using this
            · rw [if_neg c] at h; exact h.elim
    | _ => exact h.elim
end
end Ev

set_option Elab.async false
set_option linter.all false
set_option maxRecDepth 100000
set_option maxHeartbeats 4000000
set_option autoImplicit false
/-! ## A core expression stands for a text -/
namespace Ev
open PySem PySem.Spec PyProof.Rows L2

def visB (sc : Scope) (x : Str) : Bool := match sc.names.lookup x with | some .local => true | some .cell => true | some .free => true | _ => false
def locB (sc : Scope) (x : Str) : Bool := match sc.names.lookup x with | some .local => true | some .cell => true | _ => false
def glB (sc : Scope) (x : Str) : Bool := match sc.names.lookup x with | some .globalImplicit => true | _ => false
def okNm (x : Str) : Bool := !(x == ("__debug__" : Str)) && (!(x == ("__classdict__" : Str)) && !(x == ("__name__" : Str)))
/-- what may stand as an argument, a subscript -/
def plainX : Expr → Bool
  | .Starred _ _ => false
  | .Slice _ _ _ _ => false
  | .Set _ _ _ => false
  | _ => true
/-- what may stand ahead of a method's dot -/
def noSuper : Expr → Bool
  | .Call _ _ _ _ => false
  | _ => true
def isAndC : CE → Bool
  | .and1 _ => true
  | .and2 _ _ => true
  | _ => false
def isOrC : CE → Bool
  | .or1 _ => true
  | .or2 _ _ => true
  | _ => false

def isOpt (b : Bool) (f : Expr → Bool) : Option Expr → Bool
  | none => b
  | some e => f e
mutual
def isE (N : List Str) : CE → Scope → Expr → Bool
  | .var i, sc, e => (match e with | .Name x _ => decide (N[i]? = some x) && (visB sc x && okNm x) | _ => false)
  | .none_, _, e => (match e with | .Constant .none _ _ => true | _ => false)
  | .bool_ b, _, e => (match e with | .Constant (.bool c) _ _ => decide (b = c) | _ => false)
  | .int_ i, _, e => (match e with | .Constant (.int j) _ _ => decide (i = j) | _ => false)
  | .str_ s, _, e => (match e with | .Constant (.str t) _ _ => decide (s = t) | _ => false)
  | .glob x, sc, e => (match e with | .Name y _ => decide (x = y) && (glB sc y && okNm y) | _ => false)
  | .nil, _, _ => false
  | .cons _ _, _, _ => false
  | .kv _ _ _, _, _ => false
  | .tup args, sc, e => (match e with | .Tuple es _ _ => isEs N args sc es | _ => false)
  | .lst args, sc, e => (match e with | .List es _ => isEs N args sc es | _ => false)
  | .bin op a b, sc, e => (match e with | .BinOp x o y _ => decide (o = opOf op) && (isE N a sc x && isE N b sc y) | _ => false)
  | .neg a, sc, e => (match e with | .UnaryOp .USub x _ => isE N a sc x | _ => false)
  | .cmp op a b, sc, e => (match e with | .Compare x [o] [y] _ => decide (o = cmpOf op) && (plainX y && (isE N a sc x && isE N b sc y)) | _ => false)
  | .chain op op' a b c, sc, e => (match e with | .Compare x [o, o'] [y, z] _ => decide (o = cmpOf op) && (decide (o' = cmpOf op') && (plainX z && (isE N a sc x && (isE N b sc y && isE N c sc z)))) | _ => false)
  | .and1 a, sc, e => (match e with | .BoolOp .And [x] _ => isE N a sc x | _ => false)
  | .and2 a r, sc, e => (match e with | .BoolOp .And (x :: y :: rest) pos => isAndC r && (isE N a sc x && isE N r sc (.BoolOp .And (y :: rest) pos)) | _ => false)
  | .or1 a, sc, e => (match e with | .BoolOp .Or [x] _ => isE N a sc x | _ => false)
  | .or2 a r, sc, e => (match e with | .BoolOp .Or (x :: y :: rest) pos => isOrC r && (isE N a sc x && isE N r sc (.BoolOp .Or (y :: rest) pos)) | _ => false)
  | .not_ a, sc, e => (match e with | .UnaryOp .Not x _ => isE N a sc x | _ => false)
  | .ifx c a b, sc, e => (match e with | .IfExp z x y _ => isE N c sc z && (isE N a sc x && isE N b sc y) | _ => false)
  | .ix a i, sc, e => (match e with | .Subscript x y _ => plainX y && (isE N a sc x && isE N i sc y) | _ => false)
  | .slice a lo hi, sc, e => (match e with
    | .Subscript x (.Slice l h none _) _ => isE N a sc x && (isOpt (isNil lo) (isE N lo sc) l && isOpt (isNil hi) (isE N hi sc) h)
    | _ => false)
  | .rev a, sc, e => (match e with
    | .Subscript x (.Slice none none (some (.UnaryOp .USub (.Constant (.int 1) _ _) _)) _) _ => isE N a sc x
    | _ => false)
  | .call f args, sc, e => (match e with | .Call (.Name x _) es [] _ => decide (x = f) && (glB sc x && (okNm x && isEs N args sc es)) | _ => false)
  | .bi b args, sc, e => (match e with | .Call (.Name x _) es [] _ => decide (x = biName b) && (glB sc x && (!es.isEmpty && isEs N args sc es)) | _ => false)
  | .isi t a, sc, e => (match e with | .Call (.Name x _) [y, .Name z _] [] _ => decide (x = "isinstance") && (glB sc x && (decide (z = tyStr t) && (glB sc z && (plainX y && isE N a sc y)))) | _ => false)
  | .meth m o args, sc, e => (match e with | .Call (.Attribute x nm ap) es [] cp => decide (nm = mtName m) && ((ap.endLine == cp.line) && (noSuper x && (decide (es.length < 20) && (isE N o sc x && isEs N args sc es)))) | _ => false)
  | .comp k i src cond elt, sc, e => (match e with
    | .ListComp el [⟨.Name y _, it, ifs, 0⟩] scope _ => blkC N sc scope [(y, i)] && (decide (N[i]? = some y) && (decide ((relS scope sc).names.lookup y = some .local) && (plainX it && ((match k with
        | .seq => isE N src sc it
        | .range => (match it with | .Call (.Name x _) [z] [] _ => decide (x = "range") && (glB sc x && isEs N src sc [z]) | _ => false)) && ((match ifs with
        | [] => isNil cond
        | [t] => isE N cond (relS scope sc) t
        | _ => false) && isE N elt (relS scope sc) el)))))
    | _ => false)
  | .isx c a, sc, e => (match e with | .Call (.Name x _) [y, .Name z _] [] _ => decide (x = "isinstance") && (glB sc x && (decide (z = c) && (glB sc z && (decide (c ∈ excAll) && (plainX y && isE N a sc y))))) | _ => false)
  | .fld f a, sc, e => (match e with | .Attribute (.Name y p) g _ => decide (g = f) && isE N a sc (.Name y p) | _ => false)
  | .dict ps, sc, e => (match e with | .Dict ks vs _ => decide (ks ≠ []) && (decide (ks.length ≤ 15) && isPs N ps sc ks vs) | _ => false)
def isEs (N : List Str) : CE → Scope → List Expr → Bool
  | .nil, _, es => es.isEmpty
  | .cons a r, sc, es => (match es with | x :: es => plainX x && (isE N a sc x && isEs N r sc es) | [] => false)
  | _, _, _ => false
def isPs (N : List Str) : CE → Scope → List (Option Expr) → List Expr → Bool
  | .nil, _, ks, vs => ks.isEmpty && vs.isEmpty
  | .kv k v r, sc, ks, vs => (match ks, vs with | some x :: ks, y :: vs => isE N k sc x && (isE N v sc y && isPs N r sc ks vs) | _, _ => false)
  | _, _, _, _ => false
end

/-! ### the context -/
/-- what a def promises: what the evaluator answers -/
def spOf (K : PySem.W.Frag) (F : Fns) (f : Str) : Sp := fun vs H Q E => ∃ (args : List Val) (st : Store) (ρ : List Addr), RVs K ρ H args vs ∧ RS K ρ H st ∧ (PostV K ρ H (F.fn f args st) Q ∨ PostX K ρ H (F.fn f args st) E)
def freeNames : List Str := ["len", "abs", "max", "min", "sum", "all", "int", "str", "list", "tuple", "isinstance", "bool", "range"]
/-- the errors' classes as they stand in the text -/
structure ExOk (K : PySem.W.Frag) (mg : Str → Option Value) : Prop where
  ns : ∀ (c : Str), c = "Over" ∨ c ∈ exc0 → PySem.W.nsIn K mainGlobals c = some (some (.ref (cA K c)))
  gl : ∀ (c : Str), c = "ScoreError" ∨ c = "Over" ∨ c ∈ exc0 → mg c = some (.ref (cA K c))
  ve : mg "ValueError" = none
  isC : ∀ (c : Str), c = "Over" ∨ c ∈ exc0 → ExcC K (cA K c)
  exm : ∀ (c : Str), c = "Over" ∨ c ∈ exc0 → PySem.W.exmOne K (.ref (cA K c)) (.ref (cA K "ScoreError")) = some true
  kit : ∀ (c c' : Str), c = "Over" ∨ c ∈ exc0 → c' = "ScoreError" ∨ c' = "Over" ∨ c' ∈ exc0 → PySem.W.kitOne K (.ref (cA K c)) (.ref (cA K c')) = some (excSub c c')
  kitV : ∀ (c : Str), c = "Over" ∨ c ∈ exc0 → PySem.W.kitOne K (.ref (cA K c)) (.type "ValueError") = some true
  mke : ∀ c ∈ exc0, PySem.W.excIn K (cA K c) PySem.HandSPX.veTail "ValueError.__new__" = true ∧ PySem.W.keepIn K (.ref (cA K c)) = true ∧ PySem.W.subIn K (.ref (cA K c)) (.type "BaseException") = some true ∧ PySem.W.typeIn K (.ref (cA K c)) = some (.type "type")
  over : ∃ fI, PySem.OverX.OverTxt K mg (cA K "Over") fI
structure Good (X : Cx) (N : List Str) (sc : Scope) (F : Fns) (k : Nat) : Prop where
  hN : X.N = N
  hsc : X.env.scope = sc
  nd : N.Nodup
  calm : X.calm = true
  room : Room k X.A
  pass : PassesOwn (model X.prog X.w) X.A X.env X.xe
  fns : ∀ f, (∃ args st, F.fn f args st ≠ .stuck) → ∃ (a : Addr) (fd : FuncData) (ps : List Str), X.mg f = some (.ref a) ∧ PySem.W.keepIn X.K (.ref a) = true ∧ Binds X.K fd ps [] ∧ FnOk X.prog X.w X.K X.mg X.base (L2.CX X.prog X.w) k a fd ps (spOf X.K F f)
  exc : F.fuel % 2 = 1 → ExOk X.K X.mg
  gl : ∀ x v, F.glob x = some v → ∃ (u : V) (w : Value), X.mg x = some w ∧ RelV u w ∧ ∀ ρ H, RV X.K ρ H v u
  free : ∀ x ∈ freeNames, X.mg x = none

section
variable {X : Cx} {N : List Str} {sc : Scope} {F : Fns} {k : Nat}
theorem Good.units (G : Good X N sc F k) : X.A.units + 64 < cLine := G.room.units
theorem Good.vis (G : Good X N sc F k) {x : Str} (h : visB sc x = true) : Vis X.env.scope x := by
  unfold Vis
  rw [G.hsc]
  unfold visB at h
  split at h
  · exact .inl (by assumption)
  · exact .inr (.inl (by assumption))
  · exact .inr (.inr (by assumption))
  · cases h
theorem Good.loc (G : Good X N sc F k) {x : Str} (h : locB sc x = true) : L2.Loc X.env.scope x := by
  unfold L2.Loc
  rw [G.hsc]
  unfold locB at h
  split at h
  · exact .inl (by assumption)
  · exact .inr (by assumption)
  · cases h
theorem Good.glo (G : Good X N sc F k) {x : Str} (h : glB sc x = true) : Gl X x := by
  show X.env.scope.names.lookup x = some .globalImplicit
  rw [G.hsc]
  unfold glB at h
  split at h
  · assumption
  · cases h
theorem okNm1 {x : Str} (h : okNm x = true) : (x == ("__debug__" : Str)) = false := by
  unfold okNm at h
  simp only [Bool.and_eq_true, Bool.not_eq_true'] at h
  exact h.1
theorem okNm2 {x : Str} (h : okNm x = true) : (x == ("__classdict__" : Str)) = false := by
  unfold okNm at h
  simp only [Bool.and_eq_true, Bool.not_eq_true'] at h
  exact h.2.1
theorem Good.blk (G : Good X N sc F k) {scope : Scope} (s : Shared) (H : Hp) (C : Addr) (cl : List (Str × Addr)) (fp : List Addr) (i : Nat) (y : Str) (hb : blkC N sc scope [(y, i)] = true) :
    Good (X.blk s H scope (compEnvC scope cl C X.env) fp) N (relS scope sc) F k := by
  refine ⟨G.hN, ?_, G.nd, G.calm, G.room, PassesOwn.never, G.fns, G.exc, G.gl, G.free⟩
  show relS scope X.env.scope = _
  rw [G.hsc]
end

/-! ### soundness of expressions -/
def SE (X : Cx) (F : Fns) (c : CE) (e : Expr) : Prop := ∀ (env : Env) (st : Store) (σ : L2.St) (H : Hp) (ρ : List Addr) (Q : VK), RE X.K ρ H env σ → RS X.K ρ H st → PostV X.K ρ H (evalE F c env st) Q → WE X e σ H Q
def STs (X : Cx) (F : Fns) (c : CE) (e : Expr) : Prop := ∀ (env : Env) (st : Store) (σ : L2.St) (H : Hp) (ρ : List Addr) (Q : Bool → Hp → Prop), RE X.K ρ H env σ → RS X.K ρ H st → PostB X.K ρ H ((evalE F c env st).bind testV) Q → WT X e σ H Q
def SW (X : Cx) (F : Fns) (c : CE) (e : Expr) : Prop := ∀ (env : Env) (st : Store) (σ : L2.St) (H : Hp) (ρ : List Addr) (Q : Bool → Hp → Prop), RE X.K ρ H env σ → RS X.K ρ H st → PostB X.K ρ H ((evalE F c env st).bind testV) Q → WW X e σ H Q
def SA (X : Cx) (F : Fns) (c : CE) (es : List Expr) : Prop := ∀ (env : Env) (st : Store) (σ : L2.St) (H : Hp) (ρ : List Addr) (Q : List V → Hp → Prop), RE X.K ρ H env σ → RS X.K ρ H st → PostL X.K ρ H (evalE F c env st) Q → WA X es σ H Q
def SPr (X : Cx) (F : Fns) (c : CE) (ks : List (Option Expr)) (vs : List Expr) : Prop := ∀ (pos : Pos), ∃ trs, PPs X pos ks vs trs ∧ ∀ (env : Env) (st : Store) (σ : L2.St) (H : Hp) (ρ : List Addr) (Q : List (V × V) → Hp → Prop), RE X.K ρ H env σ → RS X.K ρ H st →
  (match evalE F c env st with
  | .ok (.tup xs) st' => ∀ (ps : List (V × V)) (H' : Hp) (ρ' : List Addr), Ex ρ ρ' → Gr X.K H H' → RS X.K ρ' H' st' → RVs X.K ρ' H' xs (ps.flatMap fun p => [p.1, p.2]) → Q ps H'
  | _ => False) → tPairs trs σ H Q

section
variable {X : Cx} {N : List Str} {sc : Scope} {F : Fns} {k : Nat} {c : CE} {e : Expr}
theorem testV_ok {K : PySem.W.Frag} {ρ : List Addr} {H : Hp} {v : Val} {st : Store} {Q : Bool → Hp → Prop} (h : PostB K ρ H (testV v st) Q) : ∃ b, truth st v = some b ∧ PostB K ρ H (.ok b st) Q := by
  unfold testV at h
  split at h
  · exact ⟨_, by assumption, h⟩
  · exact h.elim
theorem se_st (h : SE X F c e) (he : ∀ whole, isTrue e X.env whole = (do let v ← whole; standAt e.pos; holding [v] (truthy v))) : STs X F c e := by
  intro env st σ H ρ Q re rs hp
  obtain ⟨v, s1, e1, hp⟩ := hp.bnd
  obtain ⟨b, e2, hp⟩ := testV_ok hp
  refine of_pt (pt_truth WE.pe he) (h env st σ H ρ _ re rs ?_)
  rw [e1]
  exact fun V H' ρ' a b' c' d => ⟨b, truth_ok c' d e2, hp H' ρ' a b' c'⟩
/-- use of an expression: its value, then what follows -/
theorem se_use (h : SE X F c e) {env : Env} {st s1 : Store} {v : Val} {σ : L2.St} {H : Hp} {ρ : List Addr} {Q : VK} (re : RE X.K ρ H env σ) (rs : RS X.K ρ H st) (e1 : evalE F c env st = .ok v s1)
    (hq : ∀ V H' ρ', Ex ρ ρ' → Gr X.K H H' → RS X.K ρ' H' s1 → RE X.K ρ' H' env σ → RV X.K ρ' H' v V → Q V H') : WE X e σ H Q := by
  refine h env st σ H ρ Q re rs ?_
  rw [e1]
  exact fun V H' ρ' a b c d => hq V H' ρ' a b c (re.mono a b) d
theorem sa_use {es : List Expr} (h : SA X F c es) {env : Env} {st s1 : Store} {xs : List Val} {σ : L2.St} {H : Hp} {ρ : List Addr} {Q : List V → Hp → Prop} (re : RE X.K ρ H env σ) (rs : RS X.K ρ H st) (e1 : evalE F c env st = .ok (.tup xs) s1)
    (hq : ∀ vs H' ρ', Ex ρ ρ' → Gr X.K H H' → RS X.K ρ' H' s1 → RE X.K ρ' H' env σ → RVs X.K ρ' H' xs vs → Q vs H') : WA X es σ H Q := by
  refine h env st σ H ρ Q re rs ?_
  rw [e1]
  exact fun V H' ρ' a b c d => hq V H' ρ' a b c (re.mono a b) d
theorem st_use (h : STs X F c e) {env : Env} {st s1 : Store} {v : Val} {b : Bool} {σ : L2.St} {H : Hp} {ρ : List Addr} {Q : Bool → Hp → Prop} (re : RE X.K ρ H env σ) (rs : RS X.K ρ H st) (e1 : evalE F c env st = .ok v s1) (e2 : truth s1 v = some b)
    (hq : ∀ H' ρ', Ex ρ ρ' → Gr X.K H H' → RS X.K ρ' H' s1 → RE X.K ρ' H' env σ → Q b H') : WT X e σ H Q := by
  refine h env st σ H ρ Q re rs ?_
  rw [e1]
  show PostB X.K ρ H (testV v s1) Q
  unfold testV
  rw [e2]
  exact fun H' ρ' a b c => hq H' ρ' a b c (re.mono a b)
theorem plain_star {x : Expr} {es : List Expr} {env : PySem.Env} (h : plainX x = true) : starEach (x :: es) env = (false, eval x env) :: starEach es env := by
  cases x <;> first | rfl | cases h
theorem isEs_plain : ∀ {args : CE} {es : List Expr}, isEs N args sc es = true → es.all plainX = true
  | .nil, es, h => by
    cases es with
    | nil => rfl
    | cons _ _ => cases h
  | .cons a r, es, h => by
    cases es with
    | nil => cases h
    | cons x es =>
      have h : (plainX x && (isE N a sc x && isEs N r sc es)) = true := h
      simp only [Bool.and_eq_true] at h
      rw [List.all_cons, h.1, isEs_plain h.2.2]; rfl
  | .var _, _, h | .none_, _, h | .bool_ _, _, h | .int_ _, _, h | .str_ _, _, h | .glob _, _, h | .tup _, _, h | .lst _, _, h | .bin _ _ _, _, h | .neg _, _, h | .cmp _ _ _, _, h | .chain _ _ _ _ _, _, h | .and1 _, _, h | .and2 _ _, _, h | .or1 _, _, h | .or2 _ _, _, h | .not_ _, _, h | .ifx _ _ _, _, h | .ix _ _, _, h | .slice _ _ _, _, h | .rev _, _, h | .call _ _, _, h | .bi _ _, _, h | .isi _ _, _, h | .meth _ _ _, _, h | .comp _ _ _ _ _, _, h | .kv _ _ _, _, h | .dict _, _, h => by
    simp [isEs] at h
theorem plain_any {env : PySem.Env} {pos : Pos} : ∀ {es : List Expr}, es.all plainX = true → (backTo pos (starEach es env)).any (·.1) = false
  | [], _ => rfl
  | x :: es, h => by
    rw [List.all_cons, Bool.and_eq_true] at h
    rw [plain_star h.1]
    show (false || (backTo pos (starEach es env)).any (·.1)) = false
    rw [plain_any h.2]; rfl
theorem plain_all {env : PySem.Env} {pos : Pos} : ∀ {es : List Expr}, es.all plainX = true → (backTo pos (starEach es env)).all (fun x => !x.1) = true
  | [], _ => rfl
  | x :: es, h => by
    rw [List.all_cons, Bool.and_eq_true] at h
    rw [plain_star h.1]
    show (true && (backTo pos (starEach es env)).all (fun x => !x.1)) = true
    rw [plain_all h.2]; rfl
theorem plain_ix {x : Expr} (h : plainX x = true) : PlainIx x := by
  intro o i
  cases x <;> first | rfl | cases h
theorem plain_mark {x : Expr} {op : CmpOp} (h : plainX x = true) : behindInMarks op x = false := by
  cases x <;> first | rfl | cases h
theorem plain_fold {x : Expr} {env : PySem.Env} (h : plainX x = true) : ∀ v, foldedSetIterable x env v = pure v := by
  intro v
  cases x <;> first | rfl | cases h
theorem noSuper_base {x : Expr} {nm : Str} {env : PySem.Env} {w : Sem Value} (h : noSuper x = true) : attributeBase x nm env w = w := by
  cases x <;> first | rfl | cases h
end
end Ev

set_option Elab.async false
set_option linter.all false
set_option maxRecDepth 100000
set_option maxHeartbeats 4000000
/-! ## Soundness of expressions, construct by construct -/
namespace Ev
open PySem PySem.Spec PyProof.Rows L2

structure Snd (F : Fns) (k : Nat) (c : CE) : Prop where
  e : ∀ {X : Cx} {N : List Str} {sc : Scope} (G : Good X N sc F k) {x : Expr}, isE N c sc x = true → SE X F c x
  t : ∀ {X : Cx} {N : List Str} {sc : Scope} (G : Good X N sc F k) {x : Expr}, isE N c sc x = true → STs X F c x
  w : ∀ {X : Cx} {N : List Str} {sc : Scope} (G : Good X N sc F k) {x : Expr}, isE N c sc x = true → (isAndC c || isOrC c) = true → SW X F c x
  a : ∀ {X : Cx} {N : List Str} {sc : Scope} (G : Good X N sc F k) {es : List Expr}, isEs N c sc es = true → SA X F c es
  p : ∀ {X : Cx} {N : List Str} {sc : Scope} (G : Good X N sc F k) {ks : List (Option Expr)} {vs : List Expr}, isPs N c sc ks vs = true → SPr X F c ks vs ∧ ks.all (·.isSome) = true ∧ ks.length = vs.length

section
variable {F : Fns} {k : Nat}
/-- an expression whose test is its value's truth -/
theorem snd_val {c : CE} (he : ∀ {X : Cx} {N : List Str} {sc : Scope} (G : Good X N sc F k) {x : Expr}, isE N c sc x = true → SE X F c x)
    (ht : ∀ (N : List Str) (sc : Scope) (x : Expr) (env : PySem.Env), isE N c sc x = true → ∀ whole, isTrue x env whole = (do let v ← whole; standAt x.pos; holding [v] (truthy v)))
    (hw : (isAndC c || isOrC c) = false) (ha : ∀ N sc es, isEs N c sc es = false) (hp : ∀ N sc ks vs, isPs N c sc ks vs = false) : Snd F k c where
  e := he
  t := fun {_ _ _} G {_} h => se_st (he G h) (ht _ _ _ _ h)
  w := fun {_ _ _} G {_} h z => by rw [hw] at z; cases z
  a := fun {_ _ _} G {_} h => by rw [ha] at h; cases h
  p := fun {_ _ _} G {_ _} h => by rw [hp] at h; cases h

theorem s_var (i : Nat) : Snd F k (.var i) := by
  refine snd_val (fun {X N sc} G {x} h => ?_) (fun N sc x env h => by cases x <;> first | (intro _; rfl) | cases h) rfl (fun _ _ _ => rfl) (fun _ _ _ _ => rfl)
  intro env st σ H ρ Q re rs hp
  cases x with
  | Name y p =>
    have h : (decide (N[i]? = some y) && (visB sc y && okNm y)) = true := h
    simp only [Bool.and_eq_true, decide_eq_true_eq] at h
    obtain ⟨h1, h2, h3⟩ := h
    have hp : PostV X.K ρ H (match env[i]? with | some (some v) => .ok v st | _ => .stuck) Q := hp
    split at hp
    · rename_i v e
      obtain ⟨u, e1, e2⟩ := re.at_ i v e
      exact of_pe (pe_var (i := i) (by rw [G.hN]; exact h1) (G.vis h2) (okNm1 h3) (okNm2 h3)) ⟨u, e1, hp.here rs e2⟩
    · exact hp.elim
  | _ => cases h
theorem s_none : Snd F k .none_ := by
  refine snd_val (fun {X N sc} G {x} h => ?_) (fun N sc x env h => by cases x <;> first | (intro _; rfl) | cases h) rfl (fun _ _ _ => rfl) (fun _ _ _ _ => rfl)
  intro env st σ H ρ Q re rs hp
  cases x with
  | Constant c j p =>
    cases c with
    | none => exact of_pe pe_non (PostV.here hp rs .none)
    | _ => cases h
  | _ => cases h
theorem s_bool (b : Bool) : Snd F k (.bool_ b) := by
  refine snd_val (fun {X N sc} G {x} h => ?_) (fun N sc x env h => by cases x <;> first | (intro _; rfl) | cases h) rfl (fun _ _ _ => rfl) (fun _ _ _ _ => rfl)
  intro env st σ H ρ Q re rs hp
  cases x with
  | Constant c j p =>
    cases c with
    | bool d =>
      have h : decide (b = d) = true := h
      have h := of_decide_eq_true h
      subst h
      exact of_pe pe_bl (PostV.here hp rs (.bool _))
    | _ => cases h
  | _ => cases h
theorem s_int (i : Int) : Snd F k (.int_ i) := by
  refine snd_val (fun {X N sc} G {x} h => ?_) (fun N sc x env h => by cases x <;> first | (intro _; rfl) | cases h) rfl (fun _ _ _ => rfl) (fun _ _ _ _ => rfl)
  intro env st σ H ρ Q re rs hp
  cases x with
  | Constant c j p =>
    cases c with
    | int d =>
      have h : decide (i = d) = true := h
      have h := of_decide_eq_true h
      subst h
      exact of_pe pe_int (PostV.here hp rs (.int _))
    | _ => cases h
  | _ => cases h
theorem s_str (s : Str) : Snd F k (.str_ s) := by
  refine snd_val (fun {X N sc} G {x} h => ?_) (fun N sc x env h => by cases x <;> first | (intro _; rfl) | cases h) rfl (fun _ _ _ => rfl) (fun _ _ _ _ => rfl)
  intro env st σ H ρ Q re rs hp
  cases x with
  | Constant c j p =>
    cases c with
    | str d =>
      have h : decide (s = d) = true := h
      have h := of_decide_eq_true h
      subst h
      exact of_pe pe_str (PostV.here hp rs (.str _))
    | _ => cases h
  | _ => cases h
theorem s_glob (y : Str) : Snd F k (.glob y) := by
  refine snd_val (fun {X N sc} G {x} h => ?_) (fun N sc x env h => by cases x <;> first | (intro _; rfl) | cases h) rfl (fun _ _ _ => rfl) (fun _ _ _ _ => rfl)
  intro env st σ H ρ Q re rs hp
  cases x with
  | Name z p =>
    have h : (decide (y = z) && (glB sc z && okNm z)) = true := h
    simp only [Bool.and_eq_true, decide_eq_true_eq] at h
    obtain ⟨h1, h2, h3⟩ := h
    subst h1
    have hp : PostV X.K ρ H (match F.glob y with | some v => .ok v st | none => .stuck) Q := hp
    cases e : F.glob y with
    | none => rw [e] at hp; exact hp.elim
    | some v =>
      rw [e] at hp
      obtain ⟨u, w, g1, g2, g3⟩ := G.gl y v e
      exact of_pe (pe_glob (G.glo h2) g1 g2 (okNm1 h3)) (PostV.here hp rs (g3 ρ H))
  | _ => cases h
/-- arguments -/
theorem s_nil : Snd F k .nil where
  e := fun {_ _ _} G {_} h => by cases h
  t := fun {_ _ _} G {_} h => by cases h
  w := fun {_ _ _} G {_} h z => by cases z
  a := fun {X N sc} G {es} h => by
    intro env st σ H ρ Q re rs hp
    cases es with
    | nil => exact of_pa pa_nil (hp [] H ρ Ex.refl Gr.refl rs .nil)
    | cons _ _ => cases h
  p := fun {X N sc} G {ks vs} h => by
    cases ks with
    | cons _ _ => cases h
    | nil =>
      cases vs with
      | cons _ _ => cases h
      | nil =>
        refine ⟨fun pos => ⟨[], pps_nil, fun env st σ H ρ Q re rs hp => ?_⟩, rfl, rfl⟩
        exact hp [] H ρ Ex.refl Gr.refl rs .nil
theorem s_cons {a r : CE} (ha : Snd F k a) (hr : Snd F k r) : Snd F k (.cons a r) where
  e := fun {_ _ _} G {_} h => by cases h
  t := fun {_ _ _} G {_} h => by cases h
  w := fun {_ _ _} G {_} h z => by cases z
  a := fun {X N sc} G {es} h => by
    intro env st σ H ρ Q re rs hp
    cases es with
    | nil => cases h
    | cons x es =>
      have h : (plainX x && (isE N a sc x && isEs N r sc es)) = true := h
      simp only [Bool.and_eq_true] at h
      obtain ⟨v, s1, e1, hp⟩ := PostL.bndX (r := evalE F a env st) hp
      obtain ⟨w, s2, e2, hp⟩ := PostL.bndX (r := evalE F r env s1) hp
      cases w with
      | tup xs =>
        refine of_pa (pa_cons WE.pe WA.pa (plain_star h.1)) ?_
        refine se_use (ha.e G h.2.1) re rs e1 fun V H1 ρ1 x1 g1 rs1 re1 rv1 => ?_
        refine sa_use (hr.a G h.2.2) re1 rs1 e2 fun vs H2 ρ2 x2 g2 rs2 re2 rv2 => ?_
        exact hp (V :: vs) H2 ρ2 (x1.trans x2) (g1.trans g2) rs2 (.cons (RV.mono x2 g2 _ _ rv1) rv2)
      | _ => exact hp.elim
  p := fun {_ _ _} G {_ _} h => by cases h
theorem RVs.flat2 {K : PySem.W.Frag} {ρ : List Addr} {H : Hp} {x y : Val} {v u : V} {xs : List Val} {ps : List (V × V)} (a : RV K ρ H x v) (b : RV K ρ H y u) (c : RVs K ρ H xs (ps.flatMap fun p => [p.1, p.2])) :
    RVs K ρ H (x :: y :: xs) (((v, u) :: ps).flatMap fun p => [p.1, p.2]) := .cons a (.cons b c)
theorem s_kv {a b r : CE} (ha : Snd F k a) (hb : Snd F k b) (hr : Snd F k r) : Snd F k (.kv a b r) where
  e := fun {_ _ _} G {_} h => by cases h
  t := fun {_ _ _} G {_} h => by cases h
  w := fun {_ _ _} G {_} h z => by cases z
  a := fun {_ _ _} G {_} h => by cases h
  p := fun {X N sc} G {ks vs} h => by
    cases ks with
    | nil => cases h
    | cons x ks =>
      cases x with
      | none => cases h
      | some x =>
        cases vs with
        | nil => cases h
        | cons y vs =>
          have h : (isE N a sc x && (isE N b sc y && isPs N r sc ks vs)) = true := h
          simp only [Bool.and_eq_true] at h
          obtain ⟨h1, h2, h3⟩ := hr.p G h.2.2
          refine ⟨fun pos => ?_, by rw [List.all_cons, h2]; rfl, by rw [List.length_cons, List.length_cons, h3]⟩
          obtain ⟨trs, q1, q2⟩ := h1 pos
          refine ⟨_, pps_cons WE.pe WE.pe q1, fun env st σ H ρ Q re rs hp => ?_⟩
          have hp2 : match (evalE F a env st).bind fun x s1 => (evalE F b env s1).bind fun y s2 => (evalE F r env s2).bind fun w s3 => match w with | .tup vs => Res.ok (Val.tup (x :: y :: vs)) s3 | _ => .stuck with
            | .ok (Val.tup xs) st' => ∀ (ps : List (V × V)) (H' : Hp) (ρ' : List Addr), Ex ρ ρ' → Gr X.K H H' → RS X.K ρ' H' st' → RVs X.K ρ' H' xs (ps.flatMap fun p => [p.1, p.2]) → Q ps H'
            | _ => False := hp
          clear hp
          cases e1 : evalE F a env st with
          | ok v s1 =>
            rw [e1, bind_ok] at hp2
            cases e2 : evalE F b env s1 with
            | ok u s2 =>
              rw [e2, bind_ok] at hp2
              cases e3 : evalE F r env s2 with
              | ok w s3 =>
                rw [e3, bind_ok] at hp2
                cases w with
                | tup xs =>
                  refine se_use (ha.e G h.1) re rs e1 fun V H1 ρ1 x1 g1 rs1 re1 rv1 => ?_
                  refine se_use (hb.e G h.2.1) re1 rs1 e2 fun U H2 ρ2 x2 g2 rs2 re2 rv2 => ?_
                  refine q2 env s2 σ H2 ρ2 _ re2 rs2 ?_
                  rw [e3]
                  intro ps H3 ρ3 x3 g3 rs3 rv3
                  exact hp2 ((V, U) :: ps) H3 ρ3 (x1.trans (x2.trans x3)) (g1.trans (g2.trans g3)) rs3 (RVs.flat2 (RV.mono (x2.trans x3) (g2.trans g3) _ _ rv1) (RV.mono x3 g3 _ _ rv2) rv3)
                | _ => exact hp2.elim
              | _ => rw [e3] at hp2; exact hp2.elim
            | _ => rw [e2] at hp2; exact hp2.elim
          | _ => rw [e1] at hp2; exact hp2.elim

theorem s_tup {args : CE} (ha : Snd F k args) : Snd F k (.tup args) := by
  refine snd_val (fun {X N sc} G {x} h => ?_) (fun N sc x env h => by cases x <;> first | (intro _; rfl) | cases h) rfl (fun _ _ _ => rfl) (fun _ _ _ _ => rfl)
  intro env st σ H ρ Q re rs hp
  cases x with
  | Tuple es j p =>
    have h : isEs N args sc es = true := h
    obtain ⟨w, s1, e1, hp⟩ := PostV.bnd (r := evalE F args env st) hp
    cases w with
    | tup xs =>
      obtain ⟨hl, hp⟩ := PostV.need hp
      refine of_pe (pe_tup WA.pa) (sa_use (ha.a G h) re rs e1 fun vs H1 ρ1 x1 g1 rs1 re1 rv1 => ⟨by rw [← rv1.length]; exact hl, fun q hq => ?_⟩)
      exact PostV.newT (PostV.mono hp x1 g1) rs1 rv1 hq
    | _ => exact hp.elim
  | _ => cases h
theorem s_lst {args : CE} (ha : Snd F k args) : Snd F k (.lst args) := by
  refine snd_val (fun {X N sc} G {x} h => ?_) (fun N sc x env h => by cases x <;> first | (intro _; rfl) | cases h) rfl (fun _ _ _ => rfl) (fun _ _ _ _ => rfl)
  intro env st σ H ρ Q re rs hp
  cases x with
  | List es p =>
    have h : isEs N args sc es = true := h
    obtain ⟨w, s1, e1, hp⟩ := PostV.bnd (r := evalE F args env st) hp
    cases w with
    | tup xs =>
      obtain ⟨hl, hp⟩ := PostV.need hp
      refine of_pe (pe_lst WA.pa) (sa_use (ha.a G h) re rs e1 fun vs H1 ρ1 x1 g1 rs1 re1 rv1 => ⟨by rw [← rv1.length]; exact hl, fun q hq => ?_⟩)
      exact PostV.newL (PostV.mono hp x1 g1) rs1 rv1 hq
    | _ => exact hp.elim
  | _ => cases h
theorem s_bin {op : Bop} {a b : CE} (ha : Snd F k a) (hb : Snd F k b) : Snd F k (.bin op a b) := by
  refine snd_val (fun {X N sc} G {x} h => ?_) (fun N sc x env h => by cases x <;> first | (intro _; rfl) | cases h) rfl (fun _ _ _ => rfl) (fun _ _ _ _ => rfl)
  intro env st σ H ρ Q re rs hp
  cases x with
  | BinOp y o z p =>
    have h : (decide (o = opOf op) && (isE N a sc y && isE N b sc z)) = true := h
    simp only [Bool.and_eq_true, decide_eq_true_eq] at h
    obtain ⟨h1, h2, h3⟩ := h
    subst h1
    obtain ⟨v, s1, e1, hp⟩ := PostV.bnd (r := evalE F a env st) hp
    obtain ⟨u, s2, e2, hp⟩ := PostV.bnd (r := evalE F b env s1) hp
    refine of_pe (pe_op WOp.r WE.pe WE.pe) (se_use (ha.e G h2) re rs e1 fun V H1 ρ1 x1 g1 rs1 re1 rv1 => ?_)
    refine se_use (hb.e G h3) re1 rs1 e2 fun U H2 ρ2 x2 g2 rs2 re2 rv2 => ?_
    exact bin_ok rs2 (RV.mono x2 g2 _ _ rv1) rv2 (hp.mono (x1.trans x2) (g1.trans g2))
  | _ => cases h
theorem s_neg {a : CE} (ha : Snd F k a) : Snd F k (.neg a) := by
  refine snd_val (fun {X N sc} G {x} h => ?_) (fun N sc x env h => ?_) rfl (fun _ _ _ => rfl) (fun _ _ _ _ => rfl)
  · intro env st σ H ρ Q re rs hp
    cases x with
    | UnaryOp o y p =>
      cases o with
      | USub =>
        have h : isE N a sc y = true := h
        obtain ⟨v, s1, e1, hp⟩ := PostV.bnd (r := evalE F a env st) hp
        refine of_pe (pe_un un_neg WE.pe) (se_use (ha.e G h) re rs e1 fun V H1 ρ1 x1 g1 rs1 re1 rv1 => ?_)
        cases rv1 with
        | int i => exact ⟨i, rfl, PostV.here (PostV.mono hp x1 g1) rs1 (.int _)⟩
        | _ => exact hp.elim
      | _ => cases h
    | _ => cases h
  · cases x with
    | UnaryOp o y p =>
      cases o with
      | USub => intro _; rfl
      | _ => cases h
    | _ => cases h
theorem s_cmp {op : Cop} {a b : CE} (ha : Snd F k a) (hb : Snd F k b) : Snd F k (.cmp op a b) := by
  have main : ∀ {X : Cx} {N : List Str} {sc : Scope} (G : Good X N sc F k) {x : Expr}, isE N (.cmp op a b) sc x = true → ∃ y z p, x = .Compare y [cmpOf op] [z] p ∧ plainX z = true ∧ isE N a sc y = true ∧ isE N b sc z = true := by
    intro X N sc G x h
    cases x with
    | Compare y os zs p =>
      match os, zs, h with
      | [o], [z], h =>
        have h : (decide (o = cmpOf op) && (plainX z && (isE N a sc y && isE N b sc z))) = true := h
        simp only [Bool.and_eq_true, decide_eq_true_eq] at h
        obtain ⟨h1, h2, h3, h4⟩ := h
        subst h1
        exact ⟨y, z, p, rfl, h2, h3, h4⟩
      | [], _, h => cases h
      | _ :: _ :: _, _, h => cases h
      | [_], [], h => cases h
      | [_], _ :: _ :: _, h => cases h
    | _ => cases h
  refine ⟨fun {X N sc} G {x} h => ?_, fun {X N sc} G {x} h => ?_, fun {_ _ _} G {_} h z => (by cases z), fun {_ _ _} G {_} h => (by cases h), fun {_ _ _} G {_ _} h => (by cases h)⟩
  · obtain ⟨y, z, p, rfl, h2, h3, h4⟩ := main G h
    intro env st σ H ρ Q re rs hp
    obtain ⟨v, s1, e1, hp⟩ := PostV.bnd (r := evalE F a env st) hp
    obtain ⟨u, s2, e2, hp⟩ := PostV.bnd (r := evalE F b env s1) hp
    refine of_pe (pe_cmpR WOp.r WE.pe WE.pe (plain_mark h2)) (se_use (ha.e G h3) re rs e1 fun V H1 ρ1 x1 g1 rs1 re1 rv1 => ?_)
    refine se_use (hb.e G h4) re1 rs1 e2 fun U H2 ρ2 x2 g2 rs2 re2 rv2 => ?_
    exact cmp_ok G.units rs2 (RV.mono x2 g2 _ _ rv1) rv2 (hp.mono (x1.trans x2) (g1.trans g2))
  · obtain ⟨y, z, p, rfl, h2, h3, h4⟩ := main G h
    intro env st σ H ρ Q re rs hp
    obtain ⟨r, s3, e0, hp⟩ := hp.bnd
    obtain ⟨v, s1, e1, e0⟩ := bind_eq_ok (r := evalE F a env st) e0
    obtain ⟨u, s2, e2, e0⟩ := bind_eq_ok (r := evalE F b env s1) e0
    refine of_pt (pt_cmpR WOp.r WE.pe WE.pe (plain_mark h2)) (se_use (ha.e G h3) re rs e1 fun V H1 ρ1 x1 g1 rs1 re1 rv1 => ?_)
    refine se_use (hb.e G h4) re1 rs1 e2 fun U H2 ρ2 x2 g2 rs2 re2 rv2 => ?_
    refine cmp_ok G.units rs2 (RV.mono x2 g2 _ _ rv1) rv2 ?_
    rw [e0]
    obtain ⟨c, t1, hp⟩ := testV_ok hp
    intro W H3 ρ3 x3 g3 rs3 rv3
    have cb : ∃ d, r = .bool d := by
      have q : cmpop op v u s2 = .ok r s3 := e0
      unfold cmpop optB at q
      repeat' split at q
      all_goals first | (cases q; done) | (cases q; exact ⟨_, rfl⟩)
    obtain ⟨d, rfl⟩ := cb
    cases rv3
    cases t1
    exact ⟨_, rfl, hp H3 ρ3 (x1.trans (x2.trans x3)) (g1.trans (g2.trans g3)) rs3⟩
theorem cmp_bool {op : Cop} {v u r : Val} {s2 s3 : Store} (q : cmpop op v u s2 = .ok r s3) : ∃ d, r = .bool d := by
  unfold cmpop optB at q
  repeat' split at q
  all_goals first | (cases q; done) | (cases q; exact ⟨_, rfl⟩)
theorem s_chain {op op' : Cop} {a b c : CE} (ha : Snd F k a) (hb : Snd F k b) (hc : Snd F k c) : Snd F k (.chain op op' a b c) := by
  have main : ∀ {X : Cx} {N : List Str} {sc : Scope} (G : Good X N sc F k) {x : Expr}, isE N (.chain op op' a b c) sc x = true → ∃ y z w p, x = .Compare y [cmpOf op, cmpOf op'] [z, w] p ∧ plainX w = true ∧ isE N a sc y = true ∧ isE N b sc z = true ∧ isE N c sc w = true := by
    intro X N sc G x h
    cases x with
    | Compare y os zs p =>
      match os, zs, h with
      | [o, o'], [z, w], h =>
        have h : (decide (o = cmpOf op) && (decide (o' = cmpOf op') && (plainX w && (isE N a sc y && (isE N b sc z && isE N c sc w))))) = true := h
        simp only [Bool.and_eq_true, decide_eq_true_eq] at h
        obtain ⟨h1, h1', h2, h3, h4, h5⟩ := h
        subst h1 h1'
        exact ⟨y, z, w, p, rfl, h2, h3, h4, h5⟩
      | [], _, h => cases h
      | [_], _, h => cases h
      | _ :: _ :: _ :: _, _, h => cases h
      | [_, _], [], h => cases h
      | [_, _], [_], h => cases h
      | [_, _], _ :: _ :: _ :: _, h => cases h
    | _ => cases h
  refine ⟨fun {X N sc} G {x} h => ?_, fun {X N sc} G {x} h => ?_, fun {_ _ _} G {_} h z => (by cases z), fun {_ _ _} G {_} h => (by cases h), fun {_ _ _} G {_ _} h => (by cases h)⟩
  · obtain ⟨y, z, w, p, rfl, h2, h3, h4, h5⟩ := main G h
    intro env st σ H ρ Q re rs hp
    obtain ⟨v, s1, e1, hp⟩ := PostV.bnd (r := evalE F a env st) hp
    obtain ⟨u, s2, e2, hp⟩ := PostV.bnd (r := evalE F b env s1) hp
    obtain ⟨r, s3, e3, hp⟩ := PostV.bnd (r := cmpop op v u s2) hp
    refine of_pe (pe_chain WOp.r WOp.r WE.pe WE.pe WE.pe (plain_mark h2)) (se_use (ha.e G h3) re rs e1 fun V H1 ρ1 x1 g1 rs1 re1 rv1 => ?_)
    refine se_use (hb.e G h4) re1 rs1 e2 fun U H2 ρ2 x2 g2 rs2 re2 rv2 => ?_
    refine cmp_ok G.units rs2 (RV.mono x2 g2 _ _ rv1) rv2 ?_
    rw [e3]
    intro W H3 ρ3 x3 g3 rs3 rv3
    obtain ⟨d, rfl⟩ := cmp_bool e3
    cases rv3
    refine ⟨d, rfl, ?_⟩
    cases d with
    | false => exact PostV.here (PostV.mono hp (x1.trans (x2.trans x3)) (g1.trans (g2.trans g3))) rs3 (.bool _)
    | true =>
      obtain ⟨t, s4, e4, hp⟩ := PostV.bnd (r := evalE F c env s3) hp
      show WE X w σ H3 _
      refine se_use (hc.e G h5) (re2.mono x3 g3) rs3 e4 fun T H4 ρ4 x4 g4 rs4 re4 rv4 => ?_
      exact cmp_ok G.units rs4 (RV.mono (x3.trans x4) (g3.trans g4) _ _ rv2) rv4 (hp.mono (x1.trans (x2.trans (x3.trans x4))) (g1.trans (g2.trans (g3.trans g4))))
  · obtain ⟨y, z, w, p, rfl, h2, h3, h4, h5⟩ := main G h
    intro env st σ H ρ Q re rs hp
    obtain ⟨r0, s5, e0, hp⟩ := hp.bnd
    obtain ⟨v, s1, e1, e0⟩ := bind_eq_ok (r := evalE F a env st) e0
    obtain ⟨u, s2, e2, e0⟩ := bind_eq_ok (r := evalE F b env s1) e0
    obtain ⟨r, s3, e3, e0⟩ := bind_eq_ok (r := cmpop op v u s2) e0
    refine of_pt (pt_chain WOp.r WOp.r WE.pe WE.pe WE.pe (plain_mark h2)) (se_use (ha.e G h3) re rs e1 fun V H1 ρ1 x1 g1 rs1 re1 rv1 => ?_)
    refine se_use (hb.e G h4) re1 rs1 e2 fun U H2 ρ2 x2 g2 rs2 re2 rv2 => ?_
    refine cmp_ok G.units rs2 (RV.mono x2 g2 _ _ rv1) rv2 ?_
    rw [e3]
    intro W H3 ρ3 x3 g3 rs3 rv3
    obtain ⟨d, rfl⟩ := cmp_bool e3
    cases rv3
    refine ⟨d, rfl, ?_⟩
    cases d with
    | false =>
      cases e0
      obtain ⟨c', t1, hp⟩ := testV_ok hp
      cases t1
      exact ⟨false, rfl, hp H3 ρ3 (x1.trans (x2.trans x3)) (g1.trans (g2.trans g3)) rs3⟩
    | true =>
      obtain ⟨t, s4, e4, e0⟩ := bind_eq_ok (r := evalE F c env s3) e0
      show WE X w σ H3 _
      refine se_use (hc.e G h5) (re2.mono x3 g3) rs3 e4 fun T H4 ρ4 x4 g4 rs4 re4 rv4 => ?_
      refine cmp_ok G.units rs4 (RV.mono (x3.trans x4) (g3.trans g4) _ _ rv2) rv4 ?_
      rw [e0]
      obtain ⟨d', rfl⟩ := cmp_bool e0
      obtain ⟨c', t1, hp⟩ := testV_ok hp
      cases t1
      intro W5 H5 ρ5 x5 g5 rs5 rv5
      cases rv5
      exact ⟨d', rfl, hp H5 ρ5 (x1.trans (x2.trans (x3.trans (x4.trans x5)))) (g1.trans (g2.trans (g3.trans (g4.trans g5)))) rs5⟩
end
end Ev

set_option Elab.async false
set_option linter.all false
set_option maxRecDepth 100000
set_option maxHeartbeats 4000000
/-! ## Soundness of expressions, further constructs -/
namespace Ev
open PySem PySem.Spec PyProof.Rows L2
section
variable {F : Fns} {k : Nat}
theorem s_and1 {a : CE} (ha : Snd F k a) : Snd F k (.and1 a) := by
  have main : ∀ {N : List Str} {sc : Scope} {x : Expr}, isE N (.and1 a) sc x = true → ∃ y p, x = .BoolOp .And [y] p ∧ isE N a sc y = true := by
    intro N sc x h
    cases x with
    | BoolOp o ys p =>
      match o, ys, h with
      | .And, [y], h => exact ⟨y, p, rfl, h⟩
      | .And, [], h => cases h
      | .And, _ :: _ :: _, h => cases h
      | .Or, _, h => cases h
    | _ => cases h
  have w : ∀ {X : Cx} {N : List Str} {sc : Scope} (G : Good X N sc F k) {x : Expr}, isE N (.and1 a) sc x = true → SW X F (.and1 a) x := by
    intro X N sc G x h
    obtain ⟨y, p, rfl, h1⟩ := main h
    intro env st σ H ρ Q re rs hp
    exact of_pw (pw_and1 WT.pt) (ha.t G h1 env st σ H ρ Q re rs hp)
  refine ⟨fun {X N sc} G {x} h => ?_, fun {X N sc} G {x} h env st σ H ρ Q re rs hp => of_pt (WW.pw.pt) (w G h env st σ H ρ Q re rs hp), fun {X N sc} G {x} h _ => w G h, fun {_ _ _} G {_} h => (by cases h), fun {_ _ _} G {_ _} h => (by cases h)⟩
  obtain ⟨y, p, rfl, h1⟩ := main h
  intro env st σ H ρ Q re rs hp
  exact of_pe (pe_one WE.pe) (ha.e G h1 env st σ H ρ Q re rs hp)
theorem s_or1 {a : CE} (ha : Snd F k a) : Snd F k (.or1 a) := by
  have main : ∀ {N : List Str} {sc : Scope} {x : Expr}, isE N (.or1 a) sc x = true → ∃ y p, x = .BoolOp .Or [y] p ∧ isE N a sc y = true := by
    intro N sc x h
    cases x with
    | BoolOp o ys p =>
      match o, ys, h with
      | .Or, [y], h => exact ⟨y, p, rfl, h⟩
      | .Or, [], h => cases h
      | .Or, _ :: _ :: _, h => cases h
      | .And, _, h => cases h
    | _ => cases h
  have w : ∀ {X : Cx} {N : List Str} {sc : Scope} (G : Good X N sc F k) {x : Expr}, isE N (.or1 a) sc x = true → SW X F (.or1 a) x := by
    intro X N sc G x h
    obtain ⟨y, p, rfl, h1⟩ := main h
    intro env st σ H ρ Q re rs hp
    exact of_pw (pw_or1 WT.pt) (ha.t G h1 env st σ H ρ Q re rs hp)
  refine ⟨fun {X N sc} G {x} h => ?_, fun {X N sc} G {x} h env st σ H ρ Q re rs hp => of_pt (WW.pw.pt) (w G h env st σ H ρ Q re rs hp), fun {X N sc} G {x} h _ => w G h, fun {_ _ _} G {_} h => (by cases h), fun {_ _ _} G {_ _} h => (by cases h)⟩
  obtain ⟨y, p, rfl, h1⟩ := main h
  intro env st σ H ρ Q re rs hp
  exact of_pe (pe_one WE.pe) (ha.e G h1 env st σ H ρ Q re rs hp)
theorem s_and2 {a r : CE} (ha : Snd F k a) (hr : Snd F k r) : Snd F k (.and2 a r) := by
  have main : ∀ {N : List Str} {sc : Scope} {x : Expr}, isE N (.and2 a r) sc x = true → ∃ y z rest p, x = .BoolOp .And (y :: z :: rest) p ∧ isAndC r = true ∧ isE N a sc y = true ∧ isE N r sc (.BoolOp .And (z :: rest) p) = true := by
    intro N sc x h
    cases x with
    | BoolOp o ys p =>
      match o, ys, h with
      | .And, y :: z :: rest, h =>
        have h : (isAndC r && (isE N a sc y && isE N r sc (.BoolOp .And (z :: rest) p))) = true := h
        simp only [Bool.and_eq_true] at h
        exact ⟨y, z, rest, p, rfl, h.1, h.2.1, h.2.2⟩
      | .And, [], h => cases h
      | .And, [_], h => cases h
      | .Or, _, h => cases h
    | _ => cases h
  have w : ∀ {X : Cx} {N : List Str} {sc : Scope} (G : Good X N sc F k) {x : Expr}, isE N (.and2 a r) sc x = true → SW X F (.and2 a r) x := by
    intro X N sc G x h
    obtain ⟨y, z, rest, p, rfl, h1, h2, h3⟩ := main h
    intro env st σ H ρ Q re rs hp
    obtain ⟨v0, s0, e0, hp⟩ := hp.bnd
    obtain ⟨v, s1, e1, e0⟩ := bind_eq_ok (r := evalE F a env st) e0
    refine of_pw (pw_and WT.pt WW.pw) ?_
    cases v with
    | bool c =>
      refine st_use (ha.t G h2) re rs e1 (b := c) rfl fun H1 ρ1 x1 g1 rs1 re1 => ?_
      cases c with
      | true =>
        have e0 : evalE F r env s1 = .ok v0 s0 := e0
        show WW X _ σ H1 Q
        refine hr.w G h3 (by rw [h1]; rfl) env s1 σ H1 ρ1 Q re1 rs1 ?_
        rw [e0]
        exact hp.mono x1 g1
      | false =>
        cases e0
        obtain ⟨b, t1, hp⟩ := testV_ok hp
        cases t1
        exact hp H1 ρ1 x1 g1 rs1
    | _ => cases e0
  refine ⟨fun {X N sc} G {x} h => ?_, fun {X N sc} G {x} h env st σ H ρ Q re rs hp => of_pt (WW.pw.pt) (w G h env st σ H ρ Q re rs hp), fun {X N sc} G {x} h _ => w G h, fun {_ _ _} G {_} h => (by cases h), fun {_ _ _} G {_ _} h => (by cases h)⟩
  obtain ⟨y, z, rest, p, rfl, h1, h2, h3⟩ := main h
  intro env st σ H ρ Q re rs hp
  obtain ⟨v, s1, e1, hp⟩ := PostV.bnd (r := evalE F a env st) hp
  refine of_pe (pe_and WE.pe WE.pe) (se_use (ha.e G h2) re rs e1 fun V H1 ρ1 x1 g1 rs1 re1 rv1 => ?_)
  cases rv1 with
  | bool c =>
    refine ⟨c, rfl, ?_⟩
    cases c with
    | true => exact hr.e G h3 env s1 σ H1 ρ1 Q re1 rs1 (PostV.mono hp x1 g1)
    | false => exact PostV.here (PostV.mono hp x1 g1) rs1 (.bool _)
  | _ => exact hp.elim
theorem s_or2 {a r : CE} (ha : Snd F k a) (hr : Snd F k r) : Snd F k (.or2 a r) := by
  have main : ∀ {N : List Str} {sc : Scope} {x : Expr}, isE N (.or2 a r) sc x = true → ∃ y z rest p, x = .BoolOp .Or (y :: z :: rest) p ∧ isOrC r = true ∧ isE N a sc y = true ∧ isE N r sc (.BoolOp .Or (z :: rest) p) = true := by
    intro N sc x h
    cases x with
    | BoolOp o ys p =>
      match o, ys, h with
      | .Or, y :: z :: rest, h =>
        have h : (isOrC r && (isE N a sc y && isE N r sc (.BoolOp .Or (z :: rest) p))) = true := h
        simp only [Bool.and_eq_true] at h
        exact ⟨y, z, rest, p, rfl, h.1, h.2.1, h.2.2⟩
      | .Or, [], h => cases h
      | .Or, [_], h => cases h
      | .And, _, h => cases h
    | _ => cases h
  have w : ∀ {X : Cx} {N : List Str} {sc : Scope} (G : Good X N sc F k) {x : Expr}, isE N (.or2 a r) sc x = true → SW X F (.or2 a r) x := by
    intro X N sc G x h
    obtain ⟨y, z, rest, p, rfl, h1, h2, h3⟩ := main h
    intro env st σ H ρ Q re rs hp
    obtain ⟨v0, s0, e0, hp⟩ := hp.bnd
    obtain ⟨v, s1, e1, e0⟩ := bind_eq_ok (r := evalE F a env st) e0
    refine of_pw (pw_or WT.pt WW.pw) ?_
    cases v with
    | bool c =>
      refine st_use (ha.t G h2) re rs e1 (b := c) rfl fun H1 ρ1 x1 g1 rs1 re1 => ?_
      cases c with
      | false =>
        have e0 : evalE F r env s1 = .ok v0 s0 := e0
        show WW X _ σ H1 Q
        refine hr.w G h3 (by rw [h1, Bool.or_true]) env s1 σ H1 ρ1 Q re1 rs1 ?_
        rw [e0]
        exact hp.mono x1 g1
      | true =>
        cases e0
        obtain ⟨b, t1, hp⟩ := testV_ok hp
        cases t1
        exact hp H1 ρ1 x1 g1 rs1
    | _ => cases e0
  refine ⟨fun {X N sc} G {x} h => ?_, fun {X N sc} G {x} h env st σ H ρ Q re rs hp => of_pt (WW.pw.pt) (w G h env st σ H ρ Q re rs hp), fun {X N sc} G {x} h _ => w G h, fun {_ _ _} G {_} h => (by cases h), fun {_ _ _} G {_ _} h => (by cases h)⟩
  obtain ⟨y, z, rest, p, rfl, h1, h2, h3⟩ := main h
  intro env st σ H ρ Q re rs hp
  obtain ⟨v, s1, e1, hp⟩ := PostV.bnd (r := evalE F a env st) hp
  refine of_pe (pe_or WE.pe WE.pe) (se_use (ha.e G h2) re rs e1 fun V H1 ρ1 x1 g1 rs1 re1 rv1 => ?_)
  cases rv1 with
  | bool c =>
    refine ⟨c, rfl, ?_⟩
    cases c with
    | false => exact hr.e G h3 env s1 σ H1 ρ1 Q re1 rs1 (PostV.mono hp x1 g1)
    | true => exact PostV.here (PostV.mono hp x1 g1) rs1 (.bool _)
  | _ => exact hp.elim
theorem testV_eq {v : Val} {s1 s2 : Store} {b : Bool} (e2 : testV v s1 = .ok b s2) : truth s1 v = some b ∧ s2 = s1 := by
  unfold testV at e2
  split at e2
  · cases e2; exact ⟨by assumption, rfl⟩
  · cases e2
theorem s_not {a : CE} (ha : Snd F k a) : Snd F k (.not_ a) := by
  have main : ∀ {N : List Str} {sc : Scope} {x : Expr}, isE N (.not_ a) sc x = true → ∃ y p, x = .UnaryOp .Not y p ∧ isE N a sc y = true := by
    intro N sc x h
    cases x with
    | UnaryOp o y p =>
      cases o with
      | Not => exact ⟨y, p, rfl, h⟩
      | _ => cases h
    | _ => cases h
  refine ⟨fun {X N sc} G {x} h => ?_, fun {X N sc} G {x} h => ?_, fun {_ _ _} G {_} h z => (by cases z), fun {_ _ _} G {_} h => (by cases h), fun {_ _ _} G {_ _} h => (by cases h)⟩
  · obtain ⟨y, p, rfl, h1⟩ := main h
    intro env st σ H ρ Q re rs hp
    obtain ⟨v, s1, e1, hp1⟩ := PostV.bnd (r := evalE F a env st) hp
    obtain ⟨b, s2, e2, hp2⟩ := PostV.bnd (r := testV v s1) hp1
    obtain ⟨e3, e4⟩ := testV_eq e2
    rw [e4] at hp2
    refine of_pe (pe_notT (WE.pe (e := y))) (se_use (ha.e G h1) re rs e1 fun V H1 ρ1 x1 g1 rs1 re1 rv1 => ?_)
    exact ⟨b, truth_ok rs1 rv1 e3, PostV.here (PostV.mono hp2 x1 g1) rs1 (.bool _)⟩
  · obtain ⟨y, p, rfl, h1⟩ := main h
    intro env st σ H ρ Q re rs hp
    obtain ⟨w, s0, e0, hp1⟩ := hp.bnd
    obtain ⟨v, s1, e1, e00⟩ := bind_eq_ok (r := evalE F a env st) e0
    obtain ⟨b, s2, e2, e01⟩ := bind_eq_ok (r := testV v s1) e00
    obtain ⟨e3, e4⟩ := testV_eq e2
    cases e01
    obtain ⟨c, t1, hp2⟩ := testV_ok hp1
    cases t1
    rw [e4] at hp2
    refine of_pt (pt_not WT.pt) (st_use (ha.t G h1) re rs e1 e3 fun H1 ρ1 x1 g1 rs1 re1 => ?_)
    exact hp2 H1 ρ1 x1 g1 rs1
theorem pt_ifExp {X : Cx} {c a b : Expr} {p : Pos} {tc ta tb : TT} (hc : PT X c tc) (ha : PT X a ta) (hb : PT X b tb) : PT X (.IfExp c a b p) (fun σ H Q => tc σ H fun d H1 => if d = true then ta σ H1 Q else tb σ H1 Q) := by
  refine ⟨fun pins s σ H Q I h => ?_⟩
  refine isTrue_IfExp (thn (hc.run pins s σ H _ I h) fun d s1 ⟨H1, I1, q1⟩ => ?_)
  cases d with
  | true => exact ha.run pins s1 σ H1 Q I1 q1
  | false => exact hb.run pins s1 σ H1 Q I1 q1
theorem s_ifx {c a b : CE} (hc : Snd F k c) (ha : Snd F k a) (hb : Snd F k b) : Snd F k (.ifx c a b) := by
  have main : ∀ {N : List Str} {sc : Scope} {x : Expr}, isE N (.ifx c a b) sc x = true → ∃ z y w p, x = .IfExp z y w p ∧ isE N c sc z = true ∧ isE N a sc y = true ∧ isE N b sc w = true := by
    intro N sc x h
    cases x with
    | IfExp z y w p =>
      have h : (isE N c sc z && (isE N a sc y && isE N b sc w)) = true := h
      simp only [Bool.and_eq_true] at h
      exact ⟨z, y, w, p, rfl, h.1, h.2.1, h.2.2⟩
    | _ => cases h
  refine ⟨fun {X N sc} G {x} h => ?_, fun {X N sc} G {x} h => ?_, fun {_ _ _} G {_} h z => (by cases z), fun {_ _ _} G {_} h => (by cases h), fun {_ _ _} G {_ _} h => (by cases h)⟩
  · obtain ⟨z, y, w, p, rfl, h1, h2, h3⟩ := main h
    intro env st σ H ρ Q re rs hp
    obtain ⟨v, s1, e1, hp⟩ := PostV.bnd (r := evalE F c env st) hp
    obtain ⟨t, s2, e2, hp⟩ := PostV.bnd (r := testV v s1) hp
    obtain ⟨e3, rfl⟩ := testV_eq e2
    refine of_pe (pe_ifExp WT.pt WE.pe WE.pe) (st_use (hc.t G h1) re rs e1 e3 fun H1 ρ1 x1 g1 rs1 re1 => ?_)
    cases t with
    | true => exact ha.e G h2 env _ σ H1 ρ1 Q re1 rs1 (PostV.mono hp x1 g1)
    | false => exact hb.e G h3 env _ σ H1 ρ1 Q re1 rs1 (PostV.mono hp x1 g1)
  · obtain ⟨z, y, w, p, rfl, h1, h2, h3⟩ := main h
    intro env st σ H ρ Q re rs hp
    obtain ⟨u, s0, e0, hp⟩ := hp.bnd
    obtain ⟨v, s1, e1, e0⟩ := bind_eq_ok (r := evalE F c env st) e0
    obtain ⟨t, s2, e2, e0⟩ := bind_eq_ok (r := testV v s1) e0
    obtain ⟨e3, rfl⟩ := testV_eq e2
    refine of_pt (pt_ifExp WT.pt WT.pt WT.pt) (st_use (hc.t G h1) re rs e1 e3 fun H1 ρ1 x1 g1 rs1 re1 => ?_)
    cases t with
    | true =>
      have e0 : evalE F a env _ = .ok u s0 := e0
      refine ha.t G h2 env _ σ H1 ρ1 Q re1 rs1 ?_
      rw [e0]; exact hp.mono x1 g1
    | false =>
      have e0 : evalE F b env _ = .ok u s0 := e0
      refine hb.t G h3 env _ σ H1 ρ1 Q re1 rs1 ?_
      rw [e0]; exact hp.mono x1 g1
theorem s_ix {a i : CE} (ha : Snd F k a) (hi : Snd F k i) : Snd F k (.ix a i) := by
  refine snd_val (fun {X N sc} G {x} h => ?_) (fun N sc x env h => by cases x <;> first | (intro _; rfl) | cases h) rfl (fun _ _ _ => rfl) (fun _ _ _ _ => rfl)
  intro env st σ H ρ Q re rs hp
  cases x with
  | Subscript y z p =>
    have h : (plainX z && (isE N a sc y && isE N i sc z)) = true := h
    simp only [Bool.and_eq_true] at h
    obtain ⟨h1, h2, h3⟩ := h
    obtain ⟨v, s1, e1, hp⟩ := PostV.bnd (r := evalE F a env st) hp
    obtain ⟨u, s2, e2, hp⟩ := PostV.bnd (r := evalE F i env s1) hp
    refine of_pe (pe_ix WIx.r WE.pe WE.pe (plain_ix h1)) (se_use (ha.e G h2) re rs e1 fun V H1 ρ1 x1 g1 rs1 re1 rv1 => ?_)
    refine se_use (hi.e G h3) re1 rs1 e2 fun U H2 ρ2 x2 g2 rs2 re2 rv2 => ?_
    exact ix_ok G.units rs2 (RV.mono x2 g2 _ _ rv1) rv2 (hp.mono (x1.trans x2) (g1.trans g2))
  | _ => cases h
/-- a slice's bound -/
theorem part_use {X : Cx} {N : List Str} {sc : Scope} (G : Good X N sc F k) {c : CE} (hc : Snd F k c) {l : Option Expr}
    (h : isOpt (isNil c) (isE N c sc) l = true) {env : Env} {st s1 : Store} {i : Option Int} {σ : L2.St} {H : Hp} {ρ : List Addr} {Q : Option Int → Hp → Prop}
    (re : RE X.K ρ H env σ) (rs : RS X.K ρ H st) (e1 : (if isNil c = true then Res.ok none st else (evalE F c env st).bind part) = .ok i s1)
    (hq : ∀ H' ρ', Ex ρ ρ' → Gr X.K H H' → RS X.K ρ' H' s1 → RE X.K ρ' H' env σ → Q i H') : ∃ t, PO X l t ∧ t σ H Q := by
  cases l with
  | none =>
    have h : isNil c = true := h
    rw [if_pos h] at e1
    cases e1
    exact ⟨_, po_none, hq H ρ Ex.refl Gr.refl rs re⟩
  | some l =>
    have h : isE N c sc l = true := h
    have e2 : (evalE F c env st).bind part = .ok i s1 := by
      cases c with
      | nil => cases h
      | _ => exact e1
    obtain ⟨v, s2, e3, e4⟩ := bind_eq_ok e2
    refine ⟨_, po_some WE.pe, se_use (hc.e G h) re rs e3 fun V H1 ρ1 x1 g1 rs1 re1 rv1 => ?_⟩
    cases rv1 with
    | int j => cases e4; exact ⟨j, rfl, hq H1 ρ1 x1 g1 rs1 re1⟩
    | _ => cases e4
/-- the weakest reading of a bound -/
def WO (X : Cx) (e : Option Expr) : TO := fun σ H Q => ∃ t, PO X e t ∧ t σ H Q
theorem WO.po {X : Cx} {e : Option Expr} : PO X e (WO X e) := ⟨fun pins s σ H Q I h => by obtain ⟨t, p, q⟩ := h; exact p.run pins s σ H Q I q⟩
/-! a[::-1] of a tuple -/
section
open PyProof.Rows HT PySem.SeqAt PySem.MeetsSeq PySem.MeetsSeq2 PySem.MeetsSeq3
theorem fmap_all {α β : Type} {f : α → Option β} {g : α → β} : ∀ l : List α, (∀ m ∈ l, f m = some (g m)) → l.filterMap f = l.map g
  | [], _ => rfl
  | x :: l, h => by rw [List.filterMap_cons, h x List.mem_cons_self, List.map_cons, fmap_all l fun m hm => h m (List.mem_cons_of_mem _ hm)]
theorem pick_back (its : List Value) : ((List.range its.length).filterMap fun (m : Nat) => its.toArray[(((its.length : Int) - 1) + (m : Int) * (-1)).toNat]?) = its.reverse := by
  apply List.ext_getElem?
  intro j
  have e : ((List.range its.length).filterMap fun (m : Nat) => its.toArray[(((its.length : Int) - 1) + (m : Int) * (-1)).toNat]?) = (List.range its.length).map fun m => its.getD (its.length - 1 - m) .none := by
    refine fmap_all _ fun m hm => ?_
    have hm := List.mem_range.mp hm
    have e : (((its.length : Int) - 1) + (m : Int) * (-1)).toNat = its.length - 1 - m := by omega
    have hl : its.length - 1 - m < its.length := by omega
    rw [e]
    simp [hl]
  rw [e]
  by_cases hj : j < its.length
  · have h2 : its.length - 1 - j < its.length := by omega
    rw [List.getElem?_map, List.getElem?_range hj, List.getElem?_reverse hj]
    simp [h2]
  · rw [List.getElem?_eq_none (by simp; omega), List.getElem?_eq_none (by simp; omega)]
theorem tup_back {prog : Program} {w : World} {A : Around} {E : Value → Shared → Prop} {s : Shared} {t sl : Addr} {its : List Value} {vs : Value} {Q : Value → Shared → Prop} (ht : IsTup s.heap t its.toArray) (hs : s.heap.IsSliceOf sl .none .none vs) (ps : IsPart vs (some (-1)))
    (h : Q (.ref s.heap.objs.size) { s with heap := s.heap.push { cls := .type "tuple", data := .seq its.reverse.toArray } }) (hz : its.length ≤ sizeLine) : wpAny (model prog w) A (getItem (.ref t) (.ref sl)) Q E s := by
  obtain ⟨o, k1, k2, k3⟩ := id hs
  have hT : s.TypeIs (.ref sl) "slice" := ⟨o, k1, k2⟩
  unfold getItem
  try with_reducible refine wpAny_holding ?_
  first
    | refine wpAny_bind (wpAny_pure ?_)
    | skip
  refine wpAny_bind (wpAny_sequenceKey (ht.typeIs) (by decide) (wpAny_bind (wpAny_callSpecial?_slot (name := Str.ofString "__getitem__") (ht.typeIs) PyProof.Rows.slot_tuple_getitem (wpAny_call_entry PyProof.Rows.slot_tuple_getitem (ht.typeIs) entry_tuple_getitem ?_ (args_tuple_getitem _ _)))))
  show wpAny _ _ (Builtin.Tuple.tupleItemsOf (.ref t) >>= _) _ _ _
  refine wpAny_bind (tupleItemsOf_ ht (wpAny_bind (wpAny_typeOf hT ?_)))
  rw [if_pos (by decide)]
  have places : Builtin.Slice.slicePlaces ((its.length : Int) - 1) (-1) (-1) = its.length := by
    unfold Builtin.Slice.slicePlaces
    rw [if_neg (by decide)]
    by_cases c : (its.length : Int) - 1 > -1
    · rw [if_pos c]
      have : ((its.length : Int) - 1 - -1 - 1) / - -1 = (its.length : Int) - 1 := by
        rw [show (- -1 : Int) = 1 from rfl, Int.ediv_one]; omega
      rw [this]; omega
    · rw [if_neg c]; omega
  have app : ∀ (A : Around) (Q : Int × Int × Nat → Shared → Prop), Q ((its.length : Int) - 1, -1, its.length) s → wpAny (model prog w) A (Builtin.Slice.sliceApplied (.ref sl) (pure ((its.toArray.size : Nat) : Int))) Q E s := fun A Q h => by
    unfold Builtin.Slice.sliceApplied Builtin.Slice.sliceFields
    refine wpAny_bind (wpAny_bind (wpAny_field k1 k3 (x := .none) rfl (wpAny_bind (wpAny_field k1 k3 (x := .none) rfl (wpAny_bind (wpAny_field k1 k3 (x := vs) rfl (wpAny_pure (wpAny_bind (slicePart_ ps ?_)))))))))
    show wpAny _ _ (if ((-1 : Int) == 0) = true then _ else _) _ _ _
    rw [if_neg (by decide)]
    refine wpAny_bind (slicePart_none (wpAny_bind (slicePart_none (wpAny_bind (wpAny_pure ?_)))))
    show wpAny _ _ (pure (((its.toArray.size : Nat) : Int) - 1, (-1 : Int), Builtin.Slice.slicePlaces (((its.toArray.size : Nat) : Int) - 1) (-1) (-1))) _ _ _
    rw [List.size_toArray, places]
    exact wpAny_pure h
  refine wpAny_bind (app _ _ ?_)
  show wpAny _ _ (if (((its.length : Int) - 1 == 0 && (-1 : Int) == 1 && its.length == its.toArray.size) = true) then _ else _) _ _ _
  rw [if_neg (by simp), pick_back]
  have hok : sizeOk (.seq its.reverse.toArray) := by
    show its.reverse.toArray.size ≤ sizeLine
    simpa using hz
  first
    | exact wpAny_bind (m := Builtin.Tuple.tupleExact _) (wpAny_newObj_type (wpAny_pure ⟨_, rfl, wpAny_pure h⟩) hok)
    | exact wpAny_bind (m := Builtin.Tuple.tupleExact _) (wpAny_newObj_type (wpAny_bind (wpAny_pure (wpAny_pure ⟨_, rfl, wpAny_pure h⟩))) hok)
    | exact wpAny_bind (wpAny_bind (m := Builtin.Tuple.tupleExact _) (wpAny_newObj_type (wpAny_pure (wpAny_pure ⟨_, rfl, wpAny_pure h⟩)) hok))
    | exact wpAny_bind (wpAny_bind (m := Builtin.Tuple.tupleExact _) (wpAny_newObj_type (wpAny_pure ⟨_, rfl, wpAny_pure h⟩) hok))
end
def tRevT (K : PySem.W.Frag) (te : TE) : TE := fun σ H Q => te σ H fun x H1 => ∃ a xs, x = .ref a ∧ SqT K H1 a xs ∧ ∀ p, H1 p = none → Q (.ref p) (upd H1 p (.tup xs.reverse))
theorem pe_revT {X : Cx} {e : Expr} {te : TE} {k : Nat} {p1 p2 p3 pos : Pos} (he : PE X e te) : PE X (.Subscript e (.Slice none none (some (.UnaryOp .USub (.Constant (.int 1) k p1) p2)) p3) pos) (tRevT X.K te) := by
  refine ⟨fun pins s σ H Q I h => PyProof.Rows.Subscript_ (thn (he.run pins s σ H _ I h) fun v s1 ⟨x, H1, I1, r1, a, xs, ex, hx, q⟩ => ?_)⟩
  subst ex
  cases r1
  have st : PO X (some (.UnaryOp .USub (.Constant (.int 1) k p1) p2)) (tPart (tUn (rU fun i => .int (-i)) (tC (.int 1)))) := po_some (pe_un un_neg pe_int)
  refine wpAny_Slice (thn (po_none.run pins s1 σ H1 (fun o G => o = none ∧ G = H1) I1 ⟨rfl, rfl⟩) fun v2 s2 ⟨l, H2, I2, pl, el, e2⟩ => thn (po_none.run pins s2 σ H2 (fun o G => o = none ∧ G = H2) I2 ⟨rfl, rfl⟩) fun v3 s3 ⟨u, H3, I3, pu, eu, e3⟩ => ?_)
  subst el e2 eu e3
  refine thn (st.run pins s3 σ H3 (fun o G => o = some (-1) ∧ G = H3) I3 ⟨1, rfl, -1, rfl, rfl, rfl⟩) fun v4 s4 ⟨o, H4, I4, ps, eo, e4⟩ => ?_
  subst eo e4
  cases pl
  cases pu
  have J : Inv X pins σ H4 { s4 with heap := s4.heap.push { cls := .type "slice", data := .fields #[.none, .none, v4] } } := I4.kept (t' := s4.toks) fun b ob q => Heap.get?_push_of_some _ q
  obtain ⟨its, r, ht, hz⟩ := J.tuple hx
  have hl := r.length
  show wpAny (model X.prog X.w) X.A (subscriptTail e (.Slice none none (some (.UnaryOp .USub (.Constant (.int 1) k p1) p2)) p3) (.ref a) (.ref s4.heap.objs.size)) (EP X pins σ Q) X.xe _
  refine tail_any (ops := [.ref a, .ref s4.heap.objs.size]) ht.typeIs PyProof.Rows.slot_tuple_getitem.lookup (tup_back ht (Heap.IsSliceOf.new _ .none .none v4) ps ?_ (by omega)) (by with_unfolding_all rfl)
  exact ⟨.ref _, _, J.laid (t' := s4.toks) (o := .tup xs.reverse) (fun b ob q => Heap.get?_push_of_some _ q) (Nat.le_refl _) ⟨by rw [List.length_reverse]; exact hz, _, r.reverse, IsTup.new _ _⟩, rfl, q _ (J.hok.fresh (Nat.le_refl _))⟩
theorem s_slice {a lo hi : CE} (ha : Snd F k a) (hl : Snd F k lo) (hh : Snd F k hi) : Snd F k (.slice a lo hi) := by
  refine snd_val (fun {X N sc} G {x} h => ?_) (fun N sc x env h => by cases x <;> first | (intro _; rfl) | cases h) rfl (fun _ _ _ => rfl) (fun _ _ _ _ => rfl)
  intro env st σ H ρ Q re rs hp
  cases x with
  | Subscript y z p =>
    cases z with
    | Slice l u stp q =>
      cases stp with
      | none =>
        have h : (isE N a sc y && (isOpt (isNil lo) (isE N lo sc) l && isOpt (isNil hi) (isE N hi sc) u)) = true := h
        simp only [Bool.and_eq_true] at h
        obtain ⟨h1, h2, h3⟩ := h
        obtain ⟨v, s1, e1, hp⟩ := PostV.bnd (r := evalE F a env st) hp
        obtain ⟨i, s2, e2, hp⟩ := PostV.bnd (r := (if isNil lo = true then Res.ok none s1 else (evalE F lo env s1).bind part)) hp
        obtain ⟨j, s3, e3, hp⟩ := PostV.bnd (r := (if isNil hi = true then Res.ok none s2 else (evalE F hi env s2).bind part)) hp
        refine of_pe (pe_slice WSl.r WE.pe WO.po WO.po) (se_use (ha.e G h1) re rs e1 fun V H1 ρ1 x1 g1 rs1 re1 rv1 => ?_)
        refine part_use G hl h2 re1 rs1 e2 fun H2 ρ2 x2 g2 rs2 re2 => ?_
        refine part_use G hh h3 re2 rs2 e3 fun H3 ρ3 x3 g3 rs3 re3 => ?_
        exact sl_ok rs3 (RV.mono (x2.trans x3) (g2.trans g3) _ _ rv1) (PostV.mono hp (x1.trans (x2.trans x3)) (g1.trans (g2.trans g3)))
      | some _ => cases h
    | _ => cases h
  | _ => cases h
theorem s_rev {a : CE} (ha : Snd F k a) : Snd F k (.rev a) := by
  refine snd_val (fun {X N sc} G {x} h => ?_) (fun N sc x env h => by cases x <;> first | (intro _; rfl) | cases h) rfl (fun _ _ _ => rfl) (fun _ _ _ _ => rfl)
  intro env st σ H ρ Q re rs hp
  unfold isE at h
  split at h
  · rename_i y j p1 p2 p3 p4
    obtain ⟨v, s1, e1, hp⟩ := PostV.bnd (r := evalE F a env st) hp
    cases v with
    | tup xs =>
      refine of_pe (pe_revT WE.pe) (se_use (ha.e G h) re rs e1 fun V H1 ρ1 x1 g1 rs1 re1 rv1 => ?_)
      cases rv1 with
      | @tup _ b vs hs hv => exact ⟨b, vs, rfl, hs, fun q hq => PostV.newT (PostV.mono hp x1 g1) rs1 hv.reverse hq⟩
    | ref n =>
      replace hp : PostV X.K ρ H (match listAt s1 n with | some xs => Res.ok (Val.ref s1.length) (s1 ++ [.lst xs.reverse]) | none => .stuck) Q := hp
      cases e2 : listAt s1 n with
      | none => rw [e2] at hp; exact hp.elim
      | some xs =>
        rw [e2] at hp
        refine of_pe (pe_revL WE.pe) (se_use (ha.e G h) re rs e1 fun V H1 ρ1 x1 g1 rs1 re1 rv1 => ?_)
        cases rv1 with
        | @ref _ b hn =>
          obtain ⟨vs, hs, hv⟩ := rs1.list e2 hn
          exact ⟨b, vs, rfl, hs, fun q hq => PostV.newL (PostV.mono hp x1 g1) rs1 hv.reverse hq⟩
    | _ => exact hp.elim
  · cases h
theorem passF {X : Cx} : Passes (L2.CX X.prog X.w) X E0 := fun _ _ _ _ _ _ _ h => by
  obtain ⟨_, _, _, _, _, _, _, _, _, _, _, _, z⟩ := h
  exact z.elim
theorem s_call {f : Str} {args : CE} (ha : Snd F k args) : Snd F k (.call f args) := by
  have main : ∀ {N : List Str} {sc : Scope} {x : Expr}, isE N (.call f args) sc x = true → ∃ p es q, x = .Call (.Name f p) es [] q ∧ glB sc f = true ∧ okNm f = true ∧ isEs N args sc es = true := by
    intro N sc x h
    cases x with
    | Call fn es kw q =>
      match fn, kw, h with
      | .Name y p, [], h =>
        have h : (decide (y = f) && (glB sc y && (okNm y && isEs N args sc es))) = true := h
        simp only [Bool.and_eq_true, decide_eq_true_eq] at h
        obtain ⟨h1, h2, h3, h4⟩ := h
        subst h1
        exact ⟨p, es, q, rfl, h2, h3, h4⟩
      | .Name _ _, _ :: _, h => cases h
      | .BoolOp _ _ _, _, h | .NamedExpr _ _ _, _, h | .BinOp _ _ _ _, _, h | .UnaryOp _ _ _, _, h | .Lambda _ _ _ _, _, h | .IfExp _ _ _ _, _, h | .Dict _ _ _, _, h | .Set _ _ _, _, h | .ListComp _ _ _ _, _, h | .SetComp _ _ _ _, _, h | .DictComp _ _ _ _ _, _, h | .GeneratorExp _ _ _ _, _, h | .Await _ _, _, h | .Yield _ _, _, h | .YieldFrom _ _, _, h | .Compare _ _ _ _, _, h | .Call _ _ _ _, _, h | .FormattedValue _ _ _ _, _, h | .JoinedStr _ _, _, h | .Constant _ _ _, _, h | .Attribute _ _ _, _, h | .Subscript _ _ _, _, h | .Starred _ _, _, h | .List _ _, _, h | .Tuple _ _ _, _, h | .Slice _ _ _ _, _, h => cases h
    | _ => cases h
  refine snd_val (fun {X N sc} G {x} h => ?_) (fun N sc x env h => by obtain ⟨p, es, q, rfl, _⟩ := main h; intro _; rfl) rfl (fun _ _ _ => rfl) (fun _ _ _ _ => rfl)
  obtain ⟨p, es, q, rfl, h2, h3, h4⟩ := main h
  intro env st σ H ρ Q re rs hp
  have hp : PostV X.K ρ H (callX F f (evalE F args env st)) Q := hp
  have cs : ∃ xs s1, evalE F args env st = .ok (.tup xs) s1 := by
    cases e : evalE F args env st with
    | ok w s1 =>
      cases w with
      | tup xs => exact ⟨xs, s1, rfl⟩
      | _ => rw [e] at hp; exact hp.elim
    | exc c v s1 =>
      rw [e] at hp
      unfold callX at hp
      simp only at hp
      split at hp <;> exact hp.elim
    | stuck => rw [e] at hp; exact hp.elim
  obtain ⟨xs, s1, e1⟩ := cs
  rw [e1] at hp
  have dummy : True := trivial
  cases dummy with
  | intro =>
    have hp : PostV X.K ρ H (F.fn f xs s1) Q := hp
    have hok : ∃ args st, F.fn f args st ≠ .stuck := ⟨xs, s1, fun z => by rw [z] at hp; exact hp.elim⟩
    obtain ⟨a, fd, ps, m1, m2, m3, m4⟩ := G.fns f hok
    have pl := isEs_plain h4
    have use : WA X es σ H (fun vs H1 => spOf X.K F f (vs ++ []) H1 Q E0) := by
      refine sa_use (ha.a G h4) re rs e1 fun vs H1 ρ1 x1 g1 rs1 re1 rv1 => ?_
      rw [List.append_nil]
      exact ⟨xs, s1, ρ1, rv1, rs1, .inl (hp.mono x1 g1)⟩
    cases es with
    | nil =>
      refine of_pe (pe_call0 m4 G.room (G.glo h2) m1 m2 m3 .nil passF (okNm1 h3)) ?_
      have := use
      cases args with
      | nil =>
        cases e1
        show spOf X.K F f ([] ++ []) H Q E0
        exact ⟨[], st, ρ, .nil, rs, .inl hp⟩
      | cons _ _ => cases h4
      | _ => exact absurd h4 (by simp [isEs])
    | cons y es =>
      rw [List.all_cons, Bool.and_eq_true] at pl
      exact of_pe (pe_call m4 G.room (G.glo h2) m1 m2 m3 .nil passF WA.pa (okNm1 h3) (plain_star pl.1) (plain_any pl.2)) use
theorem s_bi {b : Bi} {args : CE} (ha : Snd F k args) : Snd F k (.bi b args) := by
  have main : ∀ {N : List Str} {sc : Scope} {x : Expr}, isE N (.bi b args) sc x = true → ∃ p e es q, x = .Call (.Name (biName b) p) (e :: es) [] q ∧ glB sc (biName b) = true ∧ isEs N args sc (e :: es) = true := by
    intro N sc x h
    cases x with
    | Call fn es kw q =>
      match fn, kw, h with
      | .Name y p, [], h =>
        have h : (decide (y = biName b) && (glB sc y && (!es.isEmpty && isEs N args sc es))) = true := h
        simp only [Bool.and_eq_true, decide_eq_true_eq] at h
        obtain ⟨h1, h2, h3, h4⟩ := h
        subst h1
        cases es with
        | nil => cases h3
        | cons e es => exact ⟨p, e, es, q, rfl, h2, h4⟩
      | .Name _ _, _ :: _, h => cases h
      | .BoolOp _ _ _, _, h | .NamedExpr _ _ _, _, h | .BinOp _ _ _ _, _, h | .UnaryOp _ _ _, _, h | .Lambda _ _ _ _, _, h | .IfExp _ _ _ _, _, h | .Dict _ _ _, _, h | .Set _ _ _, _, h | .ListComp _ _ _ _, _, h | .SetComp _ _ _ _, _, h | .DictComp _ _ _ _ _, _, h | .GeneratorExp _ _ _ _, _, h | .Await _ _, _, h | .Yield _ _, _, h | .YieldFrom _ _, _, h | .Compare _ _ _ _, _, h | .Call _ _ _ _, _, h | .FormattedValue _ _ _ _, _, h | .JoinedStr _ _, _, h | .Constant _ _ _, _, h | .Attribute _ _ _, _, h | .Subscript _ _ _, _, h | .Starred _ _, _, h | .List _ _, _, h | .Tuple _ _ _, _, h | .Slice _ _ _ _, _, h => cases h
    | _ => cases h
  refine snd_val (fun {X N sc} G {x} h => ?_) (fun N sc x env h => by obtain ⟨p, e, es, q, rfl, _⟩ := main h; intro _; rfl) rfl (fun _ _ _ => rfl) (fun _ _ _ _ => rfl)
  obtain ⟨p, e, es, q, rfl, h2, h4⟩ := main h
  intro env st σ H ρ Q re rs hp
  obtain ⟨w, s1, e1, hp⟩ := PostV.bnd (r := evalE F args env st) hp
  cases w with
  | tup xs =>
    have pl := isEs_plain h4
    rw [List.all_cons, Bool.and_eq_true] at pl
    have use : WA X (e :: es) σ H (fun vs H1 => WCall X (biVal b) vs H1 Q) := by
      refine sa_use (ha.a G h4) re rs e1 fun vs H1 ρ1 x1 g1 rs1 re1 rv1 => ?_
      exact bi_ok G.calm rs1 rv1 (PostV.mono hp x1 g1)
    cases b with
    | len => exact of_pe (pe_callB (id := "len") WCall.r (G.glo h2) (G.free _ (by decide)) PySem.boot_len WA.pa (by decide) (by decide) (plain_star pl.1) (plain_any pl.2)) use
    | abs => exact of_pe (pe_callB (id := "abs") WCall.r (G.glo h2) (G.free _ (by decide)) (by decide +kernel) WA.pa (by decide) (by decide) (plain_star pl.1) (plain_any pl.2)) use
    | max => exact of_pe (pe_callB (id := "max") WCall.r (G.glo h2) (G.free _ (by decide)) (by decide +kernel) WA.pa (by decide) (by decide) (plain_star pl.1) (plain_any pl.2)) use
    | min => exact of_pe (pe_callB (id := "min") WCall.r (G.glo h2) (G.free _ (by decide)) (by decide +kernel) WA.pa (by decide) (by decide) (plain_star pl.1) (plain_any pl.2)) use
    | sum => exact of_pe (pe_callB (id := "sum") WCall.r (G.glo h2) (G.free _ (by decide)) (by decide +kernel) WA.pa (by decide) (by decide) (plain_star pl.1) (plain_any pl.2)) use
    | all => exact of_pe (pe_callB (id := "all") WCall.r (G.glo h2) (G.free _ (by decide)) (by decide +kernel) WA.pa (by decide) (by decide) (plain_star pl.1) (plain_any pl.2)) use
    | int => exact of_pe (pe_callTy (T := "int") WCall.r (G.glo h2) (G.free _ (by decide)) (by decide +kernel) WA.pa (by decide) (by decide) (plain_star pl.1) (plain_any pl.2)) use
    | str => exact of_pe (pe_callTy (T := "str") WCall.r (G.glo h2) (G.free _ (by decide)) (by decide +kernel) WA.pa (by decide) (by decide) (plain_star pl.1) (plain_any pl.2)) use
    | list => exact of_pe (pe_callTy (T := "list") WCall.r (G.glo h2) (G.free _ (by decide)) (by decide +kernel) WA.pa (by decide) (by decide) (plain_star pl.1) (plain_any pl.2)) use
    | tuple => exact of_pe (pe_callTy (T := "tuple") WCall.r (G.glo h2) (G.free _ (by decide)) (by decide +kernel) WA.pa (by decide) (by decide) (plain_star pl.1) (plain_any pl.2)) use
  | _ => exact hp.elim
theorem s_isi {t : Ty} {a : CE} (ha : Snd F k a) : Snd F k (.isi t a) := by
  have main : ∀ {N : List Str} {sc : Scope} {x : Expr}, isE N (.isi t a) sc x = true → ∃ p y p2 q, x = .Call (.Name "isinstance" p) [y, .Name (tyStr t) p2] [] q ∧ glB sc "isinstance" = true ∧ glB sc (tyStr t) = true ∧ plainX y = true ∧ isE N a sc y = true := by
    intro N sc x h
    unfold isE at h
    split at h
    · rename_i x' p y z p2 q
      simp only [Bool.and_eq_true, decide_eq_true_eq] at h
      obtain ⟨h1, h2, h3, h4, h5, h6⟩ := h
      subst h1 h3
      exact ⟨p, y, p2, q, rfl, h2, h4, h5, h6⟩
    · cases h
  refine snd_val (fun {X N sc} G {x} h => ?_) (fun N sc x env h => by obtain ⟨p, y, p2, q, rfl, _⟩ := main h; intro _; rfl) rfl (fun _ _ _ => rfl) (fun _ _ _ _ => rfl)
  obtain ⟨p, y, p2, q, rfl, h1, h2, h3, h4⟩ := main h
  intro env st σ H ρ Q re rs hp
  obtain ⟨v, s1, e1, hp⟩ := PostV.bnd (r := evalE F a env st) hp
  have ty : PE X (.Name (tyStr t) p2) (tC (.ty (tyNm t))) := by
    cases t with
    | int => exact pe_bltn (G.glo h2) (G.free _ (by decide)) (u := .type "int") (by decide +kernel) rfl (by decide) (by decide)
    | bool => exact pe_bltn (G.glo h2) (G.free _ (by decide)) (u := .type "bool") (by decide +kernel) rfl (by decide) (by decide)
    | str => exact pe_bltn (G.glo h2) (G.free _ (by decide)) (u := .type "str") (by decide +kernel) rfl (by decide) (by decide)
    | tuple => exact pe_bltn (G.glo h2) (G.free _ (by decide)) (u := .type "tuple") (by decide +kernel) rfl (by decide) (by decide)
    | list => exact pe_bltn (G.glo h2) (G.free _ (by decide)) (u := .type "list") (by decide +kernel) rfl (by decide) (by decide)
  refine of_pe (pe_callB (id := "isinstance") call_isi (G.glo h1) (G.free _ (by decide)) (by decide +kernel) (pa_cons WE.pe (pa_cons ty pa_nil) (plain_star h3)) (by decide) (by decide) (plain_star h3) (by rfl)) ?_
  refine se_use (ha.e G h4) re rs e1 fun V H1 ρ1 x1 g1 rs1 re1 rv1 => ?_
  cases e2 : isInst t s1 v with
  | none => rw [e2] at hp; exact hp.elim
  | some b =>
    rw [e2] at hp
    exact isi_ok rs1 rv1 e2 (PostV.here (PostV.mono hp x1 g1) rs1 (.bool _))
theorem exc_cases {c : Str} (h : c ∈ excAll) : c = "ScoreError" ∨ c = "ValueError" ∨ c = "Over" ∨ c ∈ exc0 := by
  simp only [excAll, List.mem_cons] at h
  exact h
theorem exc_ndb {c : Str} (h : c ∈ excAll) : (c == ("__debug__" : Str)) = false := by
  have : ∀ c ∈ excAll, (c == ("__debug__" : Str)) = false := by decide +kernel
  exact this c h
theorem s_isx {c : Str} {a : CE} (ha : Snd F k a) : Snd F k (.isx c a) := by
  have main : ∀ {N : List Str} {sc : Scope} {x : Expr}, isE N (.isx c a) sc x = true → ∃ p y p2 q, x = .Call (.Name "isinstance" p) [y, .Name c p2] [] q ∧ glB sc "isinstance" = true ∧ glB sc c = true ∧ c ∈ excAll ∧ plainX y = true ∧ isE N a sc y = true := by
    intro N sc x h
    unfold isE at h
    split at h
    · rename_i x' p y z p2 q
      simp only [Bool.and_eq_true, decide_eq_true_eq] at h
      obtain ⟨h1, h2, h3, h4, h7, h5, h6⟩ := h
      subst h1 h3
      exact ⟨p, y, p2, q, rfl, h2, h4, h7, h5, h6⟩
    · cases h
  refine snd_val (fun {X N sc} G {x} h => ?_) (fun N sc x env h => by obtain ⟨p, y, p2, q, rfl, _⟩ := main h; intro _; rfl) rfl (fun _ _ _ => rfl) (fun _ _ _ _ => rfl)
  obtain ⟨p, y, p2, q, rfl, h1, h2, h7, h3, h4⟩ := main h
  intro env st σ H ρ Q re rs hp
  have hp : PostV X.K ρ H (if F.fuel % 2 = 1 then ((evalE F a env st).bind fun x s1 => match isExc c s1 x with | some b => Res.ok (Val.bool b) s1 | none => .stuck) else .stuck) Q := hp
  by_cases hx : F.fuel % 2 = 1
  · rw [if_pos hx] at hp
    have O := G.exc hx
    obtain ⟨v, s1, e1, hp⟩ := PostV.bnd (r := evalE F a env st) hp
    have ty : ∃ (cv : V) (u : Value), PE X (.Name c p2) (tC cv) ∧ (∀ w, RelV cv w → w = u) ∧ ∀ c1 : Str, (c1 = "Over" ∨ c1 ∈ exc0) → PySem.W.kitOne X.K (.ref (cA X.K c1)) u = some (excSub c1 c) := by
      rcases exc_cases h7 with e | e | e | e
      · exact ⟨.ref (cA X.K c), .ref (cA X.K c), pe_glob (G.glo h2) (O.gl c (.inl e)) rfl (exc_ndb h7), fun w z => z, fun c1 h => O.kit c1 c h (.inl e)⟩
      · subst e
        exact ⟨.ty "ValueError", .type "ValueError", pe_bltn (G.glo h2) O.ve (u := .type "ValueError") (by decide +kernel) rfl (by decide) (by decide), fun w z => z, fun c1 h => by rw [O.kitV c1 h]; simp [excSub]⟩
      · exact ⟨.ref (cA X.K c), .ref (cA X.K c), pe_glob (G.glo h2) (O.gl c (.inr (.inl e))) rfl (exc_ndb h7), fun w z => z, fun c1 h => O.kit c1 c h (.inr (.inl e))⟩
      · exact ⟨.ref (cA X.K c), .ref (cA X.K c), pe_glob (G.glo h2) (O.gl c (.inr (.inr e))) rfl (exc_ndb h7), fun w z => z, fun c1 h => O.kit c1 c h (.inr (.inr e))⟩
    obtain ⟨cv, u, ty, hu, hk⟩ := ty
    refine of_pe (pe_callB (id := "isinstance") call_isK (G.glo h1) (G.free _ (by decide)) (by decide +kernel) (pa_cons WE.pe (pa_cons ty pa_nil) (plain_star h3)) (by decide) (by decide) (plain_star h3) (by rfl)) ?_
    refine se_use (ha.e G h4) re rs e1 fun V H1 ρ1 x1 g1 rs1 re1 rv1 => ?_
    cases e2 : isExc c s1 v with
    | none => rw [e2] at hp; exact hp.elim
    | some b =>
      rw [e2] at hp
      cases v with
      | ref m =>
        have e2 : (match s1[m]? with | some (.inst c' _) => some (excSub c' c) | _ => none) = some b := e2
        split at e2
        · rename_i c' fs hm
          cases e2
          cases rv1 with
          | ref hr =>
            rename_i ad
            obtain ⟨C, d, n1, n2, n3, n4⟩ := rs1.at_ hm hr
            have hC : C = cA X.K c' := by
              unfold cA; rw [n1]
            have hd : d = none ∨ ∃ dd fs, d = some dd ∧ H1 dd = some (.xd fs) := by
              unfold FsR at n3
              split at n3
              · exact .inl n3
              · obtain ⟨dd, u, z1, z2, _⟩ := n3
                exact .inr ⟨dd, _, z1, z2⟩
              · exact n3.elim
            exact ⟨ad, C, d, cv, u, _, rfl, ⟨n2, hd⟩, by rw [hC]; exact O.isC c' n4, hu, by rw [hC]; exact hk c' n4, PostV.here (PostV.mono hp x1 g1) rs1 (.bool _)⟩
        · cases e2
      | _ => cases e2
  · rw [if_neg hx] at hp
    exact hp.elim
theorem s_fld {f : Str} {a : CE} (ha : Snd F k a) : Snd F k (.fld f a) := by
  have main : ∀ {N : List Str} {sc : Scope} {x : Expr}, isE N (.fld f a) sc x = true → ∃ y p q, x = .Attribute (.Name y p) f q ∧ isE N a sc (.Name y p) = true := by
    intro N sc x h
    unfold isE at h
    split at h
    · rename_i y p g q
      simp only [Bool.and_eq_true, decide_eq_true_eq] at h
      obtain ⟨h1, h2⟩ := h
      subst h1
      exact ⟨y, p, q, rfl, h2⟩
    · cases h
  refine snd_val (fun {X N sc} G {x} h => ?_) (fun N sc x env h => by obtain ⟨y, p, q, rfl, _⟩ := main h; intro _; rfl) rfl (fun _ _ _ => rfl) (fun _ _ _ _ => rfl)
  obtain ⟨y, p, q, rfl, h1⟩ := main h
  intro env st σ H ρ Q re rs hp
  have hp : PostV X.K ρ H (if F.fuel % 2 = 1 then ((evalE F a env st).bind fun x s1 => match fldAt f s1 x with | some v => Res.ok v s1 | none => .stuck) else .stuck) Q := hp
  by_cases hx : F.fuel % 2 = 1
  · rw [if_pos hx] at hp
    have O := G.exc hx
    obtain ⟨v, s1, e1, hp⟩ := PostV.bnd (r := evalE F a env st) hp
    refine of_pe (pe_fldK WE.pe) ?_
    refine se_use (ha.e G h1) re rs e1 fun V H1 ρ1 x1 g1 rs1 re1 rv1 => ?_
    cases e2 : fldAt f s1 v with
    | none => rw [e2] at hp; exact hp.elim
    | some w =>
      rw [e2] at hp
      cases v with
      | ref m =>
        have e2 : (match s1[m]? with | some (.inst c fs) => if c = "Over" ∧ f = "at" then fs.lookup f else none | _ => none) = some w := e2
        split at e2
        · rename_i c' fs hm
          by_cases hcf : c' = "Over" ∧ f = "at"
          case neg => rw [if_neg hcf] at e2; cases e2
          rw [if_pos hcf] at e2
          cases rv1 with
          | ref hr =>
            rename_i ad
            obtain ⟨C, d, n1, n2, n3, n4⟩ := rs1.at_ hm hr
            have hC : C = cA X.K c' := by
              unfold cA; rw [n1]
            unfold FsR at n3
            split at n3
            · cases e2
            · rename_i g u
              obtain ⟨dd, uv, z1, z2, z3⟩ := n3
              subst z1
              have hfg : g = f ∧ u = w := by
                rw [List.lookup_cons] at e2
                cases q : f == g with
                | true => rw [q] at e2; cases e2; exact ⟨(beq_iff_eq.mp q).symm, rfl⟩
                | false => rw [q] at e2; cases e2
              obtain ⟨rfl, rfl⟩ := hfg
              obtain ⟨fI, T⟩ := O.over
              rw [hcf.1] at hC
              refine ⟨ad, C, dd, _, uv, rfl, n2, z2, by simp [List.lookup_cons], ?_, ?_, (PostV.mono hp x1 g1) uv H1 ρ1 Ex.refl Gr.refl rs1 z3⟩
              · rw [hC]; exact ⟨T.ga, T.gg, T.exC, T.hdC⟩
              · rw [hC, hcf.2]; exact T.noN
            · exact n3.elim
        · cases e2
      | _ => cases e2
  · rw [if_neg hx] at hp
    exact hp.elim
theorem mt_facts (m : Mt) : PlainAttrs (mtTy m) ∧ Slot (mtTy m) (mtName m) (mtId m) ∧ typeOf (.builtin (mtId m)) = pure (.type "method_descriptor") := by
  cases m with
  | append => exact ⟨PySem.F.plainAttrs_list, PySem.F.slot_list_append, PySem.F.type_list_append⟩
  | extend => exact ⟨PySem.F.plainAttrs_list, PySem.F.slot_list_extend, PySem.F.type_list_extend⟩
  | pop => exact ⟨PySem.F.plainAttrs_list, PySem.F.slot_list_pop, PySem.F.type_list_pop⟩
  | count => exact ⟨PySem.F.plainAttrs_list, PySem.F.slot_list_count, PySem.F.type_list_count⟩
  | index => exact ⟨PySem.F.plainAttrs_list, PySem.F.slot_list_index, PySem.F.type_list_index⟩
  | get => exact ⟨PySem.F.plainAttrs_dict, PySem.F.slot_dict_get, PySem.F.type_dict_get⟩
theorem s_meth {m : Mt} {o args : CE} (ho : Snd F k o) (ha : Snd F k args) : Snd F k (.meth m o args) := by
  have main : ∀ {N : List Str} {sc : Scope} {x : Expr}, isE N (.meth m o args) sc x = true → ∃ y ap es cp, x = .Call (.Attribute y (mtName m) ap) es [] cp ∧ (ap.endLine == cp.line) = true ∧ noSuper y = true ∧ es.length < 20 ∧ isE N o sc y = true ∧ isEs N args sc es = true := by
    intro N sc x h
    unfold isE at h
    split at h
    · rename_i y nm ap es cp
      simp only [Bool.and_eq_true, decide_eq_true_eq] at h
      obtain ⟨h1, h2, h3, h4, h5, h6⟩ := h
      subst h1
      exact ⟨y, ap, es, cp, rfl, h2, h3, h4, h5, h6⟩
    · cases h
  refine snd_val (fun {X N sc} G {x} h => ?_) (fun N sc x env h => by obtain ⟨y, ap, es, cp, rfl, _⟩ := main h; intro _; rfl) rfl (fun _ _ _ => rfl) (fun _ _ _ _ => rfl)
  obtain ⟨y, ap, es, cp, rfl, h1, h2, h3, h4, h5⟩ := main h
  intro env st σ H ρ Q re rs hp
  obtain ⟨v, s1, e1, hp⟩ := PostV.bnd (r := evalE F o env st) hp
  obtain ⟨hk, hp⟩ := PostV.need hp
  obtain ⟨w, s2, e2, hp⟩ := PostV.bnd (r := evalE F args env s1) hp
  obtain ⟨f1, f2, f3⟩ := mt_facts m
  cases w with
  | tup xs =>
    have hp : PostV X.K ρ H (metop m v xs s2) Q := hp
    have pl := isEs_plain h5
    cases es with
    | nil =>
      refine of_pe (pe_bm0 f1 f2 f3 WMt.r WE.pe (noSuper_base h2) h1) (se_use (ho.e G h4) re rs e1 fun V H1 ρ1 x1 g1 rs1 re1 rv1 => ⟨mt_ty rs1 rv1 hk, ?_⟩)
      cases args with
      | nil =>
        cases e2
        exact meth_ok G.units rs1 rv1 .nil (hp.mono x1 g1)
      | cons _ _ => cases h5
      | _ => exact absurd h5 (by simp [isEs])
    | cons e es =>
      have pl0 := pl
      rw [List.all_cons, Bool.and_eq_true] at pl
      refine of_pe (pe_bm f1 f2 f3 WMt.r WE.pe WA.pa (noSuper_base h2) ?_ h1 (plain_star pl.1) (plain_any pl.2)) (se_use (ho.e G h4) re rs e1 fun V H1 ρ1 x1 g1 rs1 re1 rv1 => ⟨mt_ty rs1 rv1 hk, ?_⟩)
      · rw [plain_all pl0]
        show (true && true && decide ((e :: es).length + 0 + 0 < 30)) = true
        rw [decide_eq_true (by omega)]; rfl
      · refine sa_use (ha.a G h5) re1 rs1 e2 fun vs H2 ρ2 x2 g2 rs2 re2 rv2 => ?_
        exact meth_ok G.units rs2 (RV.mono x2 g2 _ _ rv1) rv2 (hp.mono (x1.trans x2) (g1.trans g2))
  | _ => exact hp.elim
theorem pairs_keys {K : PySem.W.Frag} {ρ : List Addr} {H : Hp} : ∀ {xs : List Val} {ps : List (V × V)} {kvs : List (Sum Int Str × Val)}, RVs K ρ H xs (ps.flatMap fun p => [p.1, p.2]) → toPairs xs = some kvs → ∃ ws : List (Key × V), ps = ws.map (fun kv => (kV kv.1, kv.2)) ∧ KVs K ρ H kvs ws
  | xs, [], kvs, h, e => by
    cases h
    cases e
    exact ⟨[], rfl, .nil⟩
  | xs, (a, b) :: ps, kvs, h, e => by
    have h : RVs K ρ H xs (a :: b :: ps.flatMap fun p => [p.1, p.2]) := h
    cases h with
    | @cons x _ xs _ h1 h =>
      cases h with
      | @cons y _ xs _ h2 h3 =>
        have e : ((keyOf x).bind fun z => (toPairs xs).map ((z, y) :: ·)) = some kvs := e
        cases q : keyOf x with
        | none => rw [q] at e; cases e
        | some z =>
          rw [q] at e
          have e : (toPairs xs).map ((z, y) :: ·) = some kvs := e
          cases q2 : toPairs xs with
          | none => rw [q2] at e; cases e
          | some ks =>
            rw [q2] at e
            cases e
            obtain ⟨ws, w1, w2⟩ := pairs_keys h3 q2
            refine ⟨(z, b) :: ws, ?_, .cons h2 w2⟩
            rw [List.map_cons, ← w1]
            have : a = kV z := by
              cases h1 <;> first | (cases q; done) | (cases q; rfl)
            rw [this]
theorem s_dict {ps : CE} (hs : Snd F k ps) : Snd F k (.dict ps) := by
  refine snd_val (fun {X N sc} G {x} h => ?_) (fun N sc x env h => by cases x <;> first | (intro _; rfl) | cases h) rfl (fun _ _ _ => rfl) (fun _ _ _ _ => rfl)
  intro env st σ H ρ Q re rs hp
  cases x with
  | Dict ks vs p =>
    have h : (decide (ks ≠ []) && (decide (ks.length ≤ 15) && isPs N ps sc ks vs)) = true := h
    simp only [Bool.and_eq_true, decide_eq_true_eq] at h
    obtain ⟨h1, h2, h3⟩ := h
    obtain ⟨q1, q2, q3⟩ := hs.p G h3
    obtain ⟨trs, p1, p2⟩ := q1 p
    obtain ⟨w, s1, e1, hp⟩ := PostV.bnd (r := evalE F ps env (st ++ [.dict []])) hp
    cases w with
    | tup xs =>
      have hp : PostV X.K ρ H (match s1[st.length]?, toPairs xs with
        | some (.dict []), some kvs => need (kvs.length ≤ 15) (.ok (.ref st.length) (s1.set st.length (.dict (mergeKV [] kvs))))
        | _, _ => .stuck) Q := hp
      split at hp
      · rename_i kvs d1 d2
        obtain ⟨hl, hp⟩ := PostV.need hp
        refine of_pe (pe_disp p1 q2 q3 h1 h2) fun a ha => ?_
        have hg : Gr X.K H (upd H a (.dK [])) := Gr.new ha
        have rs0 : RS X.K (ρ ++ [a]) (upd H a (.dK [])) (st ++ [.dict []]) := rs.alloc ha ⟨[], upd_same, .nil⟩
        have x0 : Ex ρ (ρ ++ [a]) := ⟨[a], rfl⟩
        refine p2 env (st ++ [.dict []]) σ _ (ρ ++ [a]) _ (re.mono x0 hg) rs0 ?_
        rw [e1]
        intro prs H2 ρ2 x2 g2 rs2 rv2
        have ea : ρ2[st.length]? = some a := x2.get (by rw [← rs.len, List.getElem?_append_right (Nat.le_refl _)]; simp)
        obtain ⟨ws, w1, w2⟩ := pairs_keys rv2 d2
        obtain ⟨ws0, c1, c2⟩ := rs2.at_ d1 ea
        have c3 : H2 a = some (.dK []) := by cases c2; exact c1
        refine ⟨c3, ws, w1, by rw [← w2.length]; exact hl, ?_⟩
        have hg3 : Gr X.K H2 (upd H2 a (.dK (mergeK [] ws))) := Gr.write c3 (fun _ z => nomatch z) (fun _ _ z => nomatch z)
        exact hp (.ref a) _ ρ2 (x0.trans x2) (hg.trans (g2.trans hg3)) (rs2.write d1 ea rfl rfl hg3 ⟨_, upd_same, KVs.mono Ex.refl hg3 (KVs.merge w2 .nil)⟩) (.ref ea)
      · exact hp.elim
    | _ => exact hp.elim
  | _ => cases h
end
end Ev

set_option Elab.async false
set_option linter.all false
set_option maxRecDepth 100000
set_option maxHeartbeats 4000000
/-! ## What is walked; comprehensions; all expressions -/
namespace Ev
open PySem PySem.Spec PyProof.Rows L2

def WI (X : Cx) (tg iter : Expr) : TI := fun σ H R => ∀ (pins : List (Addr × Obj)) (s : Shared), Inv X pins σ H s → wpAny (model X.prog X.w) X.A (eval iter X.env) (fun v s1 => wpAny (model X.prog X.w) X.A (pyIter v) (PIE X pins σ tg R) X.xe s1) X.xe s
theorem WI.pi {X : Cx} {tg iter : Expr} : PI X tg iter (WI X tg iter) := ⟨fun pins s _ _ _ I h => h pins s I⟩
theorem of_pi {X : Cx} {tg iter : Expr} {wi : TI} {σ : L2.St} {H : Hp} {R : It → Hp → Prop} (h : PI X tg iter wi) (q : wi σ H R) : WI X tg iter σ H R := fun pins s I => h.run pins s σ H R I q
def JOk (K : PySem.W.Frag) (ρ1 : List Addr) (H1 : Hp) (J : It) (k : Src) (v : Val) (xs : List Val) : Prop :=
  ∀ (ρ' : List Addr) (Hc : Hp) (st' : Store), Ex ρ1 ρ' → Gr K H1 Hc → RS K ρ' Hc st' → stays k v xs st' → ∀ i, (i < xs.length → J.go i Hc) ∧ (∀ x H' y, xs[i]? = some y → J.yld i Hc x H' → H' = Hc ∧ RV K ρ' Hc y x) ∧ (xs.length ≤ i → J.stop i Hc)
def isSrc (N : List Str) (k : Src) (src : CE) (sc : Scope) (it : Expr) : Bool := match k with
  | .seq => isE N src sc it
  | .range => (match it with | .Call (.Name x _) [z] [] _ => decide (x = "range") && (glB sc x && isEs N src sc [z]) | _ => false)
section
variable {F : Fns} {k : Nat}
theorem src_use {X : Cx} {N : List Str} {sc : Scope} (G : Good X N sc F k) {kd : Src} {src : CE} (hs : Snd F k src) {tg it : Expr} (h : isSrc N kd src sc it = true) {env : Env} {st s1 : Store} {v : Val} {xs : List Val} {σ : L2.St} {H : Hp} {ρ : List Addr} {R : It → Hp → Prop}
    (re : RE X.K ρ H env σ) (rs : RS X.K ρ H st) (e1 : evalE F src env st = .ok v s1) (e2 : srcItems kd v s1 = some xs)
    (hq : ∀ J H1 ρ1, Ex ρ ρ1 → Gr X.K H H1 → RS X.K ρ1 H1 s1 → RE X.K ρ1 H1 env σ → JOk X.K ρ1 H1 J kd v xs → R J H1) : WI X tg it σ H R := by
  cases kd with
  | seq =>
    have h : isE N src sc it = true := h
    cases v with
    | tup ys =>
      cases e2
      refine of_pi (pi_tup WE.pe) (se_use (hs.e G h) re rs e1 fun V H1 ρ1 x1 g1 rs1 re1 rv1 => ?_)
      cases rv1 with
      | @tup _ a vs hs hv =>
        refine ⟨a, rfl, ⟨vs, hs⟩, hq _ H1 ρ1 x1 g1 rs1 re1 fun ρ' Hc st' x2 g2 rs2 _ i => ?_⟩
        have hs2 := g2.tup _ _ hs
        have hv2 := RVs.mono x2 g2 _ _ hv
        refine ⟨fun hi => ?_, fun x H' y hy hx => ?_, fun hi => ⟨vs, hs2, by rw [← hv2.length]; exact hi⟩⟩
        · obtain ⟨w, w1, _⟩ := hv2.get (List.getElem?_eq_getElem hi)
          exact ⟨vs, w, hs2, w1⟩
        · obtain ⟨e3, e4⟩ := hx
          obtain ⟨w, w1, w2⟩ := hv2.get hy
          have := e4 vs hs2
          rw [w1] at this
          cases this
          exact ⟨e3, w2⟩
    | ref n =>
      have e2 : listAt s1 n = some xs := e2
      refine of_pi (pi_list WE.pe) (se_use (hs.e G h) re rs e1 fun V H1 ρ1 x1 g1 rs1 re1 rv1 => ?_)
      cases rv1 with
      | @ref _ a hn =>
        obtain ⟨vs, hs, hv⟩ := rs1.list e2 hn
        refine ⟨a, rfl, ⟨vs, hs⟩, hq _ H1 ρ1 x1 g1 rs1 re1 fun ρ' Hc st' x2 g2 rs2 hst i => ?_⟩
        have hst : listAt st' n = some xs := hst
        obtain ⟨vs2, hs2, hv2⟩ := rs2.list hst (x2.get hn)
        refine ⟨fun hi => ?_, fun x H' y hy hx => ?_, fun hi => ⟨vs2, hs2, by rw [← hv2.length]; exact hi⟩⟩
        · obtain ⟨w, w1, _⟩ := hv2.get (List.getElem?_eq_getElem hi)
          exact ⟨vs2, w, hs2, w1⟩
        · obtain ⟨e3, e4⟩ := hx
          obtain ⟨w, w1, w2⟩ := hv2.get hy
          have := e4 vs2 hs2
          rw [w1] at this
          cases this
          exact ⟨e3, w2⟩
    | _ => cases e2
  | range =>
    unfold isSrc at h
    simp only at h
    split at h
    · rename_i x p z q
      simp only [Bool.and_eq_true, decide_eq_true_eq] at h
      obtain ⟨h1, h2, h3⟩ := h
      subst h1
      have pl := isEs_plain h3
      rw [List.all_cons, Bool.and_eq_true] at pl
      have : ∃ n : Int, v = .tup [.int n] ∧ (n < 2 ^ 62 ∧ -(2 ^ 62) ≤ n) ∧ xs = (List.range n.toNat).map fun (j : Nat) => Val.int (j : Int) := by
        unfold srcItems at e2
        split at e2
        · rename_i h0; cases h0
        · rename_i h0; cases h0
        · rename_i w n hz
          split at e2
          · cases e2; exact ⟨n, rfl, by assumption, rfl⟩
          · cases e2
        · cases e2
      obtain ⟨n, rfl, hb, rfl⟩ := this
      refine of_pi (pi_range1 (G.glo h2) (G.free _ (by decide)) WA.pa (plain_star pl.1)) (sa_use (hs.a G h3) re rs e1 fun vs H1 ρ1 x1 g1 rs1 re1 rv1 => ?_)
      cases rv1 with
      | cons r1 r2 =>
        cases r2
        cases r1
        refine ⟨n, rfl, hb.2, hb.1, hq _ H1 ρ1 x1 g1 rs1 re1 fun ρ' Hc st' x2 g2 rs2 hst i => ?_⟩
        refine ⟨fun hi => ?_, fun x H' y hy hx => ?_, fun hi => ?_⟩
        · rw [List.length_map, List.length_range] at hi; exact hi
        rotate_left
        · rw [List.length_map, List.length_range] at hi; exact hi
        obtain ⟨e3, e4⟩ := hx
        subst e4
        rw [List.getElem?_map] at hy
        cases q2 : (List.range n.toNat)[i]? with
        | none => rw [q2] at hy; cases hy
        | some j =>
          rw [q2] at hy
          have hj : i = j := by
            have := List.getElem?_eq_some_iff.mp q2
            obtain ⟨h5, h6⟩ := this
            rw [List.getElem_range] at h6
            exact h6
          subst hj
          cases hy
          refine ⟨e3, ?_⟩
          rw [Int.zero_add]
          exact .int _
    · cases h

/-! ### comprehensions -/
def WTs (X : Cx) (ifs : List Expr) : TT := fun σ H Q => ∃ t, PTs X ifs t ∧ t σ H Q
theorem WTs.pts {X : Cx} {ifs : List Expr} : PTs X ifs (WTs X ifs) := ⟨fun pins s σ H Q I h => by obtain ⟨t, p, q⟩ := h; exact p.run pins s σ H Q I q⟩
/-- the readings of a block, whatever its frame -/
def tElt (X : Cx) (scope : Scope) (el : Expr) : TE := fun σ H Q => ∀ (s : Shared) (H0 : Hp) (C : Addr) (cl : List (Str × Addr)) (fp : List Addr), WE (X.blk s H0 scope (compEnvC scope cl C X.env) fp) el σ H Q
def tIfs (X : Cx) (scope : Scope) (ifs : List Expr) : TT := fun σ H Q => ∀ (s : Shared) (H0 : Hp) (C : Addr) (cl : List (Str × Addr)) (fp : List Addr), WTs (X.blk s H0 scope (compEnvC scope cl C X.env) fp) ifs σ H Q
theorem isE_comp {N : List Str} {kd : Src} {i : Nat} {src cond elt : CE} {sc : Scope} {x : Expr} (h : isE N (.comp kd i src cond elt) sc x = true) :
    ∃ el y p it ifs scope q, x = .ListComp el [⟨.Name y p, it, ifs, 0⟩] scope q ∧ blkC N sc scope [(y, i)] = true ∧ N[i]? = some y ∧ (relS scope sc).names.lookup y = some .local ∧ plainX it = true ∧ isSrc N kd src sc it = true ∧
      ((ifs = [] ∧ isNil cond = true) ∨ ∃ t, ifs = [t] ∧ isE N cond (relS scope sc) t = true) ∧ isE N elt (relS scope sc) el = true := by
  unfold isE at h
  split at h
  · rename_i el y p it ifs scope q
    simp only [Bool.and_eq_true, decide_eq_true_eq] at h
    obtain ⟨h1, h2, h3, h4, h5, h6, h7⟩ := h
    refine ⟨el, y, p, it, ifs, scope, q, rfl, h1, h2, h3, h4, ?_, ?_, h7⟩
    · unfold isSrc
      exact h5
    · split at h6
      · exact .inl ⟨rfl, h6⟩
      · exact .inr ⟨_, rfl, h6⟩
      · cases h6
  · cases h
theorem RE.comp {K : PySem.W.Frag} {ρ : List Addr} {H : Hp} {env : Env} {σ : L2.St} {i : Nat} {y : Val} {x : V} (r : RE K ρ H env σ) (h : RV K ρ H y x) : RE K ρ H (env.set i (some y)) ((L2.wipe σ [i]).set i (some x)) := by
  have e : (L2.wipe σ [i]).set i (some x) = σ.set i (some x) := by
    show (σ.set i none).set i (some x) = _
    rw [List.set_set]
  rw [e]
  exact r.set h
theorem comp_read {X : Cx} {N : List Str} {sc : Scope} (G : Good X N sc F k) {kd : Src} {i : Nat} {src cond elt : CE} (hs : Snd F k src) (hc : Snd F k cond) (he : Snd F k elt)
    {el it tg : Expr} {ifs : List Expr} {scope : Scope} {y : Str} (hb : blkC N sc scope [(y, i)] = true) (h1 : isSrc N kd src sc it = true)
    (h2 : (ifs = [] ∧ isNil cond = true) ∨ ∃ t, ifs = [t] ∧ isE N cond (relS scope sc) t = true) (h3 : isE N elt (relS scope sc) el = true)
    {env : Env} {st : Store} {σ : L2.St} {H : Hp} {ρ : List Addr} {Q : VK} (re : RE X.K ρ H env σ) (rs : RS X.K ρ H st) (hp : PostV X.K ρ H (evalE F (.comp kd i src cond elt) env st) Q) :
    tLc (WI X tg it) (gName i) (tIfs X scope ifs) (tElt X scope el) [i] σ H Q := by
  obtain ⟨v, s1, e1, hp⟩ := PostV.bnd (r := evalE F src env st) hp
  cases e2 : srcItems kd v s1 with
  | none => rw [e2] at hp; exact hp.elim
  | some xs =>
    rw [e2] at hp
    refine src_use G hs h1 re rs e1 e2 fun J H1 ρ1 x1 g1 rs1 re1 jok => ?_
    intro D hD
    have hp1 := PostV.mono hp x1 g1
    clear hp
    generalize hf : (fun (x : Val) (s : Store) => if isNil cond = true then (evalE F elt (env.set i (some x)) s).bind fun y s3 => Res.ok (some y) s3
        else (evalE F cond (env.set i (some x)) s).bind fun t s2 => (testV t s2).bind fun b s3 => if b = true then (evalE F elt (env.set i (some x)) s3).bind fun y s4 => .ok (some y) s4 else .ok none s3) = f at hp1
    have xD : Ex ρ1 (ρ1 ++ [D]) := ⟨[D], rfl⟩
    have gD : Gr X.K H1 (upd H1 D (.lst [])) := Gr.new hD
    have iD : (ρ1 ++ [D])[s1.length]? = some D := by rw [← rs1.len, List.getElem?_append_right (Nat.le_refl _)]; simp
    have rsD : RS X.K (ρ1 ++ [D]) (upd H1 D (.lst [])) (s1 ++ [.lst []]) := rs1.alloc hD ⟨[], upd_same, .nil⟩
    have inv0 : ∃ ρ' st', Ex (ρ1 ++ [D]) ρ' ∧ Gr X.K H1 (upd H1 D (.lst [])) ∧ RS X.K ρ' (upd H1 D (.lst [])) st' ∧ PostV X.K ρ' (upd H1 D (.lst [])) (compLoop f (stays kd v xs) s1.length (xs.drop 0) st') Q :=
      ⟨ρ1 ++ [D], s1 ++ [Cell.lst []], Ex.refl, gD, rsD, PostV.mono (r := compLoop f (stays kd v xs) s1.length xs (s1 ++ [Cell.lst []])) hp1 xD gD⟩
    refine ⟨fun j m Hc => m = xs.length - j ∧ j ≤ xs.length ∧ ∃ ρ' st', Ex (ρ1 ++ [D]) ρ' ∧ Gr X.K H1 Hc ∧ RS X.K ρ' Hc st' ∧ PostV X.K ρ' Hc (compLoop f (stays kd v xs) s1.length (xs.drop j) st') Q, ⟨xs.length, by simp, Nat.zero_le _, inv0⟩, ?_⟩
    rintro j m Hc ⟨rfl, hj, ρ', st', x2, g2, rs2, hp2⟩
    have fD : ρ'[s1.length]? = some D := x2.get iD
    by_cases hlt : j < xs.length
    · obtain ⟨z, hz⟩ : ∃ z, xs[j]? = some z := ⟨_, List.getElem?_eq_getElem hlt⟩
      have hdr : xs.drop j = z :: xs.drop (j + 1) := by
        rw [List.drop_eq_getElem_cons hlt]
        rw [List.getElem?_eq_getElem hlt] at hz
        cases hz; rfl
      rw [hdr] at hp2
      unfold compLoop at hp2
      split at hp2
      · rename_i hst
        obtain ⟨j1, j2, _⟩ := jok ρ' Hc st' (xD.trans x2) g2 rs2 hst j
        refine .inr ⟨j1 hlt, fun Hc => ∃ ρ' st', Ex (ρ1 ++ [D]) ρ' ∧ Gr X.K H1 Hc ∧ RS X.K ρ' Hc st' ∧ PostV X.K ρ' Hc (compLoop f (stays kd v xs) s1.length (xs.drop (j + 1)) st') Q, fun H' nx => ⟨xs.length - (j + 1), by omega, rfl, hlt, nx⟩, fun x H' yl => ?_⟩
        obtain ⟨eH, rvx⟩ := j2 x H' z hz yl
        subst eH
        have re2 : RE X.K ρ' H' env σ := re1.mono (xD.trans x2) g2
        have re3 := RE.comp (i := i) re2 rvx
        refine ⟨?_, ?_⟩
        · show ((L2.wipe σ [i]).set i (some x)).set i none = σ.set i none
          show ((σ.set i none).set i (some x)).set i none = σ.set i none
          rw [List.set_set, List.set_set]
        · obtain ⟨o, s3, e3, hp3⟩ := PostV.bnd hp2
          -- what follows an element
          have fin : ∀ (yv : V) (y' : Val) (s4 : Store) (H4 : Hp) (ρ4 : List Addr), Ex ρ' ρ4 → Gr X.K H' H4 → RS X.K ρ4 H4 s4 → RV X.K ρ4 H4 y' yv →
              PostV X.K ρ' H' (match s4[s1.length]? with
                | some (.lst acc) => if acc.length < sizeLine then compLoop f (stays kd v xs) s1.length (xs.drop (j + 1)) (s4.set s1.length (.lst (acc ++ [y']))) else .stuck
                | _ => .stuck) Q →
              ∃ acc, H4 D = some (.lst acc) ∧ acc.length < sizeLine ∧ ∃ ρ' st', Ex (ρ1 ++ [D]) ρ' ∧ Gr X.K H1 (upd H4 D (.lst (acc ++ [yv]))) ∧ RS X.K ρ' (upd H4 D (.lst (acc ++ [yv]))) st' ∧ PostV X.K ρ' (upd H4 D (.lst (acc ++ [yv]))) (compLoop f (stays kd v xs) s1.length (xs.drop (j + 1)) st') Q := by
            intro yv y' s4 H4 ρ4 x4 g4 rs4 rv4 hq
            split at hq
            · rename_i acc ea
              split at hq
              · rename_i hl
                obtain ⟨ws, c1, c2⟩ := rs4.at_ ea (x4.get fD)
                have hg : Gr X.K H4 (upd H4 D (.lst (ws ++ [yv]))) := Gr.write c1 (fun _ z => nomatch z) (fun _ _ z => nomatch z)
                refine ⟨ws, c1, by rw [← c2.length]; exact hl, ρ4, _, x2.trans x4, g2.trans (g4.trans hg), rs4.write (c' := .lst (acc ++ [y'])) ea (x4.get fD) rfl rfl hg ⟨_, upd_same, RVs.mono Ex.refl hg _ _ (c2.append (.cons rv4 .nil))⟩, hq.mono x4 (g4.trans hg)⟩
              · exact hq.elim
            · exact hq.elim
          have e3' : f z st' = .ok o s3 := e3
          rw [← hf] at e3'
          simp only at e3'
          rcases h2 with ⟨rfl, hn⟩ | ⟨t, rfl, ht⟩
          · rw [if_pos hn] at e3'
            obtain ⟨y', s4, e4, e5⟩ := bind_eq_ok e3'
            cases e5
            intro s0 H0 C cl fp
            refine ⟨_, pts_nil, ?_⟩
            show tElt X scope el _ _ _
            intro s0 H0 C cl fp
            refine se_use (X := X.blk s0 H0 scope (compEnvC scope cl C X.env) fp) (he.e (G.blk s0 H0 C cl fp i y hb) h3) re3 rs2 e4 fun V H4 ρ4 x4 g4 rs4 re4 rv4 => ?_
            exact fin V y' s3 H4 ρ4 x4 g4 rs4 rv4 hp3
          · have hnn : ¬ isNil cond = true := by
              intro hn
              cases cond <;> first | (cases hn; done) | (cases ht; done)
            rw [if_neg hnn] at e3'
            obtain ⟨tv, s4, e4, e5⟩ := bind_eq_ok e3'
            obtain ⟨b, s5, e6, e7⟩ := bind_eq_ok e5
            obtain ⟨t1, t2⟩ := testV_eq e6
            intro s0 H0 C cl fp
            refine ⟨_, pts_one WT.pt, ?_⟩
            refine st_use (X := X.blk s0 H0 scope (compEnvC scope cl C X.env) fp) (hc.t (G.blk s0 H0 C cl fp i y hb) ht) re3 rs2 e4 t1 fun H4 ρ4 x4 g4 rs4 re4 => ?_
            rw [← t2] at rs4
            cases b with
            | false =>
              cases e7
              have hp3 : PostV X.K ρ' H' (compLoop f (stays kd v xs) s1.length (xs.drop (j + 1)) s3) Q := hp3
              show ∃ ρ' st', _
              exact ⟨ρ4, s3, x2.trans x4, g2.trans g4, rs4, hp3.mono x4 g4⟩
            | true =>
              obtain ⟨y', s6, e8, e9⟩ := bind_eq_ok e7
              cases e9
              show tElt X scope el _ _ _
              intro s0 H0 C cl fp
              refine se_use (X := X.blk s0 H0 scope (compEnvC scope cl C X.env) fp) (he.e (G.blk s0 H0 C cl fp i y hb) h3) re4 rs4 e8 fun V H5 ρ5 x5 g5 rs5 re5 rv5 => ?_
              exact fin V y' s3 H5 ρ5 (x4.trans x5) (g4.trans g5) rs5 rv5 hp3
      · exact hp2.elim
    · have ej : j = xs.length := by omega
      subst ej
      rw [List.drop_length] at hp2
      unfold compLoop at hp2
      split at hp2
      · rename_i hst
        obtain ⟨_, _, j3⟩ := jok ρ' Hc st' (xD.trans x2) g2 rs2 hst xs.length
        exact .inl ⟨j3 (Nat.le_refl _), PostV.here hp2 rs2 (.ref fD)⟩
      · exact hp2.elim
theorem s_comp {kd : Src} {i : Nat} {src cond elt : CE} (hs : Snd F k src) (hc : Snd F k cond) (he : Snd F k elt) : Snd F k (.comp kd i src cond elt) := by
  refine snd_val (fun {X N sc} G {x} h => ?_) (fun N sc x env h => by obtain ⟨_, _, _, _, _, _, _, rfl, _⟩ := isE_comp h; intro _; rfl) rfl (fun _ _ _ => rfl) (fun _ _ _ _ => rfl)
  obtain ⟨el, y, p, it, ifs, scope, q, rfl, h1, h2, h3, h4, h5, h6, h7⟩ := isE_comp h
  intro env st σ H ρ Q re rs hp
  refine of_pe (pe_lc (own := [(y, i)]) (g := gName i) (tt := tIfs X scope ifs) (te := tElt X scope el) G.calm (by rw [G.hN]; exact G.nd) WI.pi (blkOk_by (by rw [G.hN, G.hsc]; exact h1)) (fun s H0 C cl fp => ?_) (fun s H0 C cl fp => ?_) (fun s H0 C cl fp => ?_) (plain_fold h4)) (comp_read G hs hc he h1 h5 h6 h7 re rs hp)
  · have G2 := G.blk s H0 C cl fp i y h1
    exact pg_name (by rw [G2.hN]; exact G2.nd) (by rw [G2.hN]; exact h2) (.inl (by rw [G2.hsc]; exact h3)) (.inr (by rw [G2.hsc]; exact h3))
  · exact ⟨fun pins s' σ' H' Q' I h => WTs.pts.run pins s' σ' H' Q' I (h s H0 C cl fp)⟩
  · exact ⟨fun pins s' σ' H' Q' I h => (h s H0 C cl fp) pins s' I⟩
/-- ALL EXPRESSIONS -/
theorem snd_all : ∀ c : CE, Snd F k c := by
  intro c
  induction c with
  | var i => exact s_var i
  | none_ => exact s_none
  | bool_ b => exact s_bool b
  | int_ i => exact s_int i
  | str_ s => exact s_str s
  | glob x => exact s_glob x
  | nil => exact s_nil
  | cons a r ha hr => exact s_cons ha hr
  | tup a ha => exact s_tup ha
  | lst a ha => exact s_lst ha
  | bin op a b ha hb => exact s_bin ha hb
  | neg a ha => exact s_neg ha
  | cmp op a b ha hb => exact s_cmp ha hb
  | chain op op' a b c ha hb hc => exact s_chain ha hb hc
  | and1 a ha => exact s_and1 ha
  | and2 a r ha hr => exact s_and2 ha hr
  | or1 a ha => exact s_or1 ha
  | or2 a r ha hr => exact s_or2 ha hr
  | not_ a ha => exact s_not ha
  | ifx c a b hc ha hb => exact s_ifx hc ha hb
  | ix a i ha hi => exact s_ix ha hi
  | slice a lo hi ha hl hh => exact s_slice ha hl hh
  | rev a ha => exact s_rev ha
  | call f a ha => exact s_call ha
  | bi b a ha => exact s_bi ha
  | isi t a ha => exact s_isi ha
  | isx c a ha => exact s_isx ha
  | fld f a ha => exact s_fld ha
  | meth m o a ho ha => exact s_meth ho ha
  | comp kd i s c e hs hc he => exact s_comp hs hc he
  | kv a b r ha hb hr => exact s_kv ha hb hr
  | dict p hp => exact s_dict hp
end
end Ev

set_option Elab.async false
set_option linter.all false
set_option maxRecDepth 100000
set_option maxHeartbeats 4000000
/-! ## Statements -/
namespace Ev
open PySem PySem.Spec PyProof.Rows L2

/-! ### what never raises; what raises -/
def NX {α : Type} (r : Res α) : Prop := ∀ c v s, r ≠ .exc c v s
theorem nx_ok {α : Type} {a : α} {s : Store} : NX (.ok a s) := fun _ _ _ h => nomatch h
theorem nx_stuck {α : Type} : NX (.stuck : Res α) := fun _ _ _ h => nomatch h
theorem nx_need {α : Type} {p : Prop} [Decidable p] {r : Res α} (h : NX r) : NX (Ev.need p r) := by
  unfold Ev.need
  split
  · exact h
  · exact nx_stuck
theorem nx_bind {α β : Type} {r : Res α} {f : α → Store → Res β} (h : ∀ a s, NX (f a s)) : NX (r.bind f) := fun c v s e => by
  obtain ⟨a, s1, _, e2⟩ := bind_eq_exc e
  exact h a s1 c v s e2
theorem nx_binop {op : Bop} {a b : Val} {st : Store} : NX (binop op a b st) := by unfold binop; ((repeat' split) <;> first | exact nx_ok | exact nx_stuck | exact nx_need nx_ok | exact nx_need nx_stuck)
theorem nx_optB {o : Option Bool} {n : Bool} {st : Store} : NX (optB o n st) := by unfold optB; ((repeat' split) <;> first | exact nx_ok | exact nx_stuck | exact nx_need nx_ok | exact nx_need nx_stuck)
theorem nx_cmpop {op : Cop} {a b : Val} {st : Store} : NX (cmpop op a b st) := by
  unfold cmpop
  split <;> first | exact nx_optB | ((repeat' split) <;> first | exact nx_ok | exact nx_stuck | exact nx_need nx_ok | exact nx_need nx_stuck)
theorem nx_ixop {a b : Val} {st : Store} : NX (ixop a b st) := by unfold ixop; ((repeat' split) <;> first | exact nx_ok | exact nx_stuck | exact nx_need nx_ok | exact nx_need nx_stuck)
theorem nx_part {a : Val} {st : Store} : NX (part a st) := by unfold part; ((repeat' split) <;> first | exact nx_ok | exact nx_stuck | exact nx_need nx_ok | exact nx_need nx_stuck)
theorem nx_sliceop {a : Val} {l h : Option Int} {st : Store} : NX (sliceop a l h st) := by unfold sliceop; ((repeat' split) <;> first | exact nx_ok | exact nx_stuck | exact nx_need nx_ok | exact nx_need nx_stuck)
theorem nx_revop {a : Val} {st : Store} : NX (revop a st) := by unfold revop; ((repeat' split) <;> first | exact nx_ok | exact nx_stuck | exact nx_need nx_ok | exact nx_need nx_stuck)
theorem nx_bifn {b : Bi} {vs : List Val} {st : Store} : NX (bifn b vs st) := by unfold bifn; ((repeat' split) <;> first | exact nx_ok | exact nx_stuck | exact nx_need nx_ok | exact nx_need nx_stuck)
theorem nx_metop {m : Mt} {o : Val} {vs : List Val} {st : Store} : NX (metop m o vs st) := by unfold metop; ((repeat' split) <;> first | exact nx_ok | exact nx_stuck | exact nx_need nx_ok | exact nx_need nx_stuck)
theorem nx_testV {v : Val} {st : Store} : NX (testV v st) := by unfold testV; ((repeat' split) <;> first | exact nx_ok | exact nx_stuck | exact nx_need nx_ok | exact nx_need nx_stuck)
theorem nx_comp {f : Val → Store → Res (Option Val)} {ok : Store → Prop} {D : Nat} : ∀ (xs : List Val) (st : Store), NX (compLoop f ok D xs st)
  | [], st => by unfold compLoop; ((repeat' split) <;> first | exact nx_ok | exact nx_stuck | exact nx_need nx_ok | exact nx_need nx_stuck)
  | x :: xs, st => by
    unfold compLoop
    split
    · refine nx_bind fun o s1 => ?_
      split
      · exact nx_comp xs s1
      · split
        · split
          · exact nx_comp xs _
          · exact nx_stuck
        · exact nx_stuck
    · exact nx_stuck
section
variable {F : Fns} {k : Nat}
def plainR : CE → Bool
  | .and1 _ => false
  | .and2 _ _ => false
  | .or1 _ => false
  | .or2 _ _ => false
  | .cons _ _ => false
  | .call _ _ => false
  | .ifx _ _ _ => false
  | _ => true
theorem nx_E (c : CE) (h : plainR c = true) (env : Env) (st : Store) : NX (evalE F c env st) := by
  cases c with
  | and1 _ => cases h
  | and2 _ _ => cases h
  | or1 _ => cases h
  | or2 _ _ => cases h
  | cons _ _ => cases h
  | call _ _ => cases h
  | ifx _ _ _ => cases h
  | var i => simp only [evalE]; ((repeat' split) <;> first | exact nx_ok | exact nx_stuck | exact nx_need nx_ok | exact nx_need nx_stuck)
  | none_ => exact nx_ok
  | bool_ b => exact nx_ok
  | int_ i => exact nx_ok
  | str_ s => exact nx_ok
  | glob x => simp only [evalE]; ((repeat' split) <;> first | exact nx_ok | exact nx_stuck | exact nx_need nx_ok | exact nx_need nx_stuck)
  | nil => exact nx_ok
  | tup a => simp only [evalE]; exact nx_bind fun _ _ => by ((repeat' split) <;> first | exact nx_ok | exact nx_stuck | exact nx_need nx_ok | exact nx_need nx_stuck)
  | lst a => simp only [evalE]; exact nx_bind fun _ _ => by ((repeat' split) <;> first | exact nx_ok | exact nx_stuck | exact nx_need nx_ok | exact nx_need nx_stuck)
  | bin op a b => simp only [evalE]; exact nx_bind fun _ _ => nx_bind fun _ _ => nx_binop
  | neg a => simp only [evalE]; exact nx_bind fun _ _ => by ((repeat' split) <;> first | exact nx_ok | exact nx_stuck | exact nx_need nx_ok | exact nx_need nx_stuck)
  | cmp op a b => simp only [evalE]; exact nx_bind fun _ _ => nx_bind fun _ _ => nx_cmpop
  | chain op op' a b c =>
    simp only [evalE]
    refine nx_bind fun _ _ => nx_bind fun _ _ => nx_bind fun _ _ => ?_
    split
    · split
      · exact nx_bind fun _ _ => nx_cmpop
      · exact nx_ok
    · exact nx_stuck
  | not_ a => simp only [evalE]; exact nx_bind fun _ _ => nx_bind fun _ _ => nx_ok
  | ix a i => simp only [evalE]; exact nx_bind fun _ _ => nx_bind fun _ _ => nx_ixop
  | slice a lo hi => simp only [evalE]; exact nx_bind fun _ _ => nx_bind fun _ _ => nx_bind fun _ _ => nx_sliceop
  | rev a => simp only [evalE]; exact nx_bind fun _ _ => nx_revop
  | bi b a =>
    simp only [evalE]
    refine nx_bind fun _ _ => ?_
    split
    · exact nx_bifn
    · exact nx_stuck
  | isi t a => simp only [evalE]; exact nx_bind fun _ _ => by ((repeat' split) <;> first | exact nx_ok | exact nx_stuck | exact nx_need nx_ok | exact nx_need nx_stuck)
  | meth m o a =>
    simp only [evalE]
    refine nx_bind fun _ _ => nx_need (nx_bind fun _ _ => ?_)
    split
    · exact nx_metop
    · exact nx_stuck
  | comp kd i src cond elt =>
    simp only [evalE]
    refine nx_bind fun _ _ => ?_
    split
    · exact nx_comp _ _
    · exact nx_stuck
  | kv k v r => simp only [evalE]; exact nx_bind fun _ _ => nx_bind fun _ _ => nx_bind fun _ _ => by ((repeat' split) <;> first | exact nx_ok | exact nx_stuck | exact nx_need nx_ok | exact nx_need nx_stuck)
  | dict ps =>
    simp only [evalE]
    refine nx_bind fun _ _ => ?_
    ((repeat' split) <;> first | exact nx_ok | exact nx_stuck | exact nx_need nx_ok | exact nx_need nx_stuck)
  | isx c a =>
    simp only [evalE]
    split
    · exact nx_bind fun _ _ => by ((repeat' split) <;> first | exact nx_ok | exact nx_stuck | exact nx_need nx_ok | exact nx_need nx_stuck)
    · exact nx_stuck
  | fld f a =>
    simp only [evalE]
    split
    · exact nx_bind fun _ _ => by ((repeat' split) <;> first | exact nx_ok | exact nx_stuck | exact nx_need nx_ok | exact nx_need nx_stuck)
    · exact nx_stuck
theorem PostX.exc {α : Type} {K : PySem.W.Frag} {ρ : List Addr} {H : Hp} {r : Res α} {E : XK} (h : PostX K ρ H r E) : ∃ c v s, r = .exc c v s := by
  cases r with
  | exc c v s => exact ⟨c, v, s, rfl⟩
  | _ => exact h.elim
theorem PostX.nx {α : Type} {K : PySem.W.Frag} {ρ : List Addr} {H : Hp} {r : Res α} {E : XK} (h : PostX K ρ H r E) (n : NX r) : False := by
  obtain ⟨c, v, s, e⟩ := h.exc
  exact n c v s e
theorem PostX.bndX {α β : Type} {K : PySem.W.Frag} {ρ : List Addr} {H : Hp} {r : Res α} {f : α → Store → Res β} {E : XK} (h : PostX K ρ H (r.bindX f) E) : PostX K ρ H r E ∨ ∃ a s1, r = .ok a s1 ∧ PostX K ρ H (f a s1) E := by
  cases r with
  | ok a s1 => exact .inr ⟨a, s1, rfl, h⟩
  | exc c v s => exact .inl h
  | stuck => exact h.elim
theorem PostX.bnd {α β : Type} {K : PySem.W.Frag} {ρ : List Addr} {H : Hp} {r : Res α} {f : α → Store → Res β} {E : XK} (h : PostX K ρ H (r.bind f) E) : ∃ a s1, r = .ok a s1 ∧ PostX K ρ H (f a s1) E := by
  cases r with
  | ok a s1 => exact ⟨a, s1, rfl, h⟩
  | exc c v s => exact h.elim
  | stuck => exact h.elim
theorem we_nox {X : Cx} {x : Expr} {σ : L2.St} {H : Hp} {Q : VK} (h : WE X.nox x σ H Q) : WE X x σ H Q := of_pe (PE.nox WE.pe) h
theorem wt_nox {X : Cx} {x : Expr} {σ : L2.St} {H : Hp} {Q : Bool → Hp → Prop} (h : WT X.nox x σ H Q) : WT X x σ H Q := of_pt (PT.nox WT.pt) h
theorem wss_nox {X : Cx} {x : List Stmt} {σ : L2.St} {H : Hp} {D : Ends} (h : WSs X.nox x D σ H) : WSs X x D σ H := of_pss (PSs.nox WSs.pss) h
theorem wst_nox {X : Cx} {x : Stmt} {σ : L2.St} {H : Hp} {D : Ends} (h : WSt X.nox x D σ H) : WSt X x D σ H := fun pins s I =>
  wpAny_mono (h pins s (I.wish _)) (fun _ _ q => q.unwish) fun _ _ z => False.elim z
theorem wa_nox {X : Cx} {x : List Expr} {σ : L2.St} {H : Hp} {Q : List V → Hp → Prop} (h : WA X.nox x σ H Q) : WA X x σ H Q := fun pos pins s I =>
  wpAny_mono (h pos pins s (I.wish _)) (fun _ _ ⟨v, H', I', r, q⟩ => ⟨v, H', I'.unwish, r, q⟩) fun _ _ z => False.elim z
/-- an expression that raises -/
def RxE (X : Cx) (W : WX) (F : Fns) (c : CE) (x : Expr) : Prop := ∀ (env : Env) (st : Store) (σ : L2.St) (H : Hp) (ρ : List Addr) (Q : VK), RE X.K ρ H env σ → RS X.K ρ H st → PostX X.K ρ H (evalE F c env st) (fun cls d H' => W cls d σ H') → WE X x σ H Q
def RxA (X : Cx) (W : WX) (F : Fns) (c : CE) (x : List Expr) : Prop := ∀ (env : Env) (st : Store) (σ : L2.St) (H : Hp) (ρ : List Addr) (Q : List V → Hp → Prop), RE X.K ρ H env σ → RS X.K ρ H st → PostX X.K ρ H (evalE F c env st) (fun cls d H' => W cls d σ H') → WA X x σ H Q
theorem rx_all : ∀ (c : CE), canR c = true → ∀ {X : Cx} {N : List Str} {sc : Scope} {W : WX} (G : Good X N sc F k) (tk : Takes X W), (∀ {x : Expr}, isE N c sc x = true → RxE X W F c x) ∧ (∀ {x : List Expr}, isEs N c sc x = true → RxA X W F c x) := by
  intro c
  induction c with
  | and1 _ _ => intro z; cases z
  | and2 _ _ _ _ => intro z; cases z
  | or1 _ _ => intro z; cases z
  | or2 _ _ _ _ => intro z; cases z
  | cons a r iha ihr =>
    intro hc X N sc W G tk
    have hc : (canR a && canR r) = true := hc
    simp only [Bool.and_eq_true] at hc
    refine ⟨fun {x} h => (by cases x <;> cases h), fun {es} h => ?_⟩
    intro env st σ H ρ Q re rs hp
    cases es with
    | nil => cases h
    | cons x es =>
      have h : (plainX x && (isE N a sc x && isEs N r sc es)) = true := h
      simp only [Bool.and_eq_true] at h
      refine of_pa (pa_cons WE.pe WA.pa (plain_star h.1)) ?_
      rcases PostX.bndX (r := evalE F a env st) hp with hp | ⟨v, s1, e1, hp⟩
      · exact (iha hc.1 G tk).1 h.2.1 env st σ H ρ _ re rs hp
      · refine id (se_use (X := X) ((snd_all a).e G h.2.1) re rs e1 fun V H1 ρ1 x1 g1 rs1 re1 rv1 => ?_)
        rcases PostX.bndX (r := evalE F r env s1) hp with hp | ⟨w, s2, e2, hp⟩
        · exact (ihr hc.2 G tk).2 h.2.2 env s1 σ H1 ρ1 _ re1 rs1 (hp.mono x1 g1)
        · cases w <;> exact hp.elim
  | call f args ih =>
    intro hc X N sc W G tk
    have hc' : (canR args && !isNil args) = true := hc
    simp only [Bool.and_eq_true, Bool.not_eq_true'] at hc'
    clear hc
    refine ⟨fun {x} h => ?_, fun {es} h => (by cases es <;> cases h)⟩
    unfold isE at h
    split at h
    · rename_i y p es q
      simp only [Bool.and_eq_true, decide_eq_true_eq] at h
      obtain ⟨h1, h2, h3, h4⟩ := h
      subst h1
      intro env st σ H ρ Q re rs hp
      have hp : PostX X.K ρ H (callX F y (evalE F args env st)) (fun cls d H' => W cls d σ H') := hp
      have pl := isEs_plain h4
      cases es with
      | nil =>
        exfalso
        cases args with
        | nil => cases hc'.2
        | cons _ _ => cases h4
        | _ => exact absurd h4 (by simp [isEs])
      | cons z es =>
        rw [List.all_cons, Bool.and_eq_true] at pl
        have alive : ∃ args st, F.fn y args st ≠ .stuck := by
          cases e : evalE F args env st with
          | ok w s1 =>
            rw [e] at hp
            cases w with
            | tup xs => exact ⟨xs, s1, fun z => by rw [callX_ok, z] at hp; exact hp.elim⟩
            | _ => exact hp.elim
          | exc c v s1 =>
            rw [e] at hp
            unfold callX at hp
            simp only at hp
            split at hp
            · assumption
            · exact hp.elim
          | stuck => rw [e] at hp; exact hp.elim
        obtain ⟨a, fd, ps, m1, m2, m3, m4⟩ := G.fns y alive
        refine of_pe (pe_callS (E := L2.WE W) m4 G.room (G.glo h2) m1 m2 m3 (fun σ => passAt tk σ) WA.pa (okNm1 h3) (plain_star pl.1) (plain_any pl.2)) ?_
        cases e1 : evalE F args env st with
        | ok w s1 =>
          rw [e1] at hp
          cases w with
          | tup xs =>
            have hp : PostX X.K ρ H (F.fn y xs s1) (fun cls d H' => W cls d σ H') := hp
            refine id (sa_use (X := X) ((snd_all args).a G h4) re rs e1 fun vs H1 ρ1 x1 g1 rs1 re1 rv1 => ?_)
            exact ⟨xs, s1, ρ1, rv1, rs1, .inr (hp.mono x1 g1)⟩
          | _ => exact hp.elim
        | exc c v s1 =>
          rw [e1] at hp
          unfold callX at hp
          simp only at hp
          rw [if_pos alive] at hp
          refine (ih hc'.1 G tk).2 h4 env st σ H ρ _ re rs ?_
          rw [e1]
          exact hp
        | stuck => rw [e1] at hp; exact hp.elim
    · cases h
  | ifx c a b ihc iha ihb =>
    intro hc X N sc W G tk
    have hc : (canR a && canR b) = true := hc
    simp only [Bool.and_eq_true] at hc
    refine ⟨fun {x} h => ?_, fun {es} h => (by cases es <;> cases h)⟩
    unfold isE at h
    split at h
    · rename_i z y w p
      simp only [Bool.and_eq_true] at h
      intro env st σ H ρ Q re rs hp
      obtain ⟨v, s1, e1, hp⟩ := PostX.bnd (r := evalE F c env st) hp
      obtain ⟨t, s2, e2, hp⟩ := PostX.bnd (r := testV v s1) hp
      obtain ⟨e3, rfl⟩ := testV_eq e2
      refine of_pe (pe_ifExp WT.pt WE.pe WE.pe) (id (st_use (X := X) ((snd_all c).t G h.1) re rs e1 e3 fun H1 ρ1 x1 g1 rs1 re1 => ?_))
      cases t with
      | true => exact (iha hc.1 G tk).1 h.2.1 env _ σ H1 ρ1 Q re1 rs1 (PostX.mono hp x1 g1)
      | false => exact (ihb hc.2 G tk).1 h.2.2 env _ σ H1 ρ1 Q re1 rs1 (PostX.mono hp x1 g1)
    · cases h
  | _ =>
    intro hc X N sc W G tk
    exact ⟨fun {x} h env st σ H ρ Q re rs hp => (hp.nx (nx_E _ rfl env st)).elim, fun {x} h env st σ H ρ Q re rs hp => (hp.nx (nx_E _ rfl env st)).elim⟩
end
/-- no comprehension -/
def noLC : Expr → Bool
  | .ListComp _ _ _ _ => false
  | .SetComp _ _ _ _ => false
  | .DictComp _ _ _ _ _ => false
  | _ => true
/-- .. and no tuple display -/
def noTL : Expr → Bool
  | .Tuple _ _ _ => false
  | e => noLC e
/-- a list of names as targets -/
def isNames (N : List Str) (sc : Scope) : List Nat → List Expr → Bool
  | [], ts => ts.isEmpty
  | i :: is, ts => (match ts with | .Name y _ :: ts => decide (N[i]? = some y) && (locB sc y && isNames N sc is ts) | _ => false)
/-- a for's target -/
def isTgt (N : List Str) (sc : Scope) (is : List Nat) (tg : Expr) : Bool :=
  match tg with
  | .Name y _ => (match is with | [i] => decide (N[i]? = some y) && locB sc y | _ => false)
  | .Tuple ts _ _ => decide (2 ≤ is.length) && isNames N sc is ts
  | _ => false
mutual
def isS (N : List Str) (sc : Scope) : CS → Stmt → Bool
  | .skip, _ => false
  | .seq _ _, _ => false
  | .expr e, st => (match st with | .Expr x _ => noLC x && isE N e sc x | _ => false)
  | .ret e, st => (match st with | .Return (some x) _ => isE N e sc x | _ => false)
  | .retN, st => (match st with | .Return none _ => true | _ => false)
  | .pass, st => (match st with | .Pass _ => true | _ => false)
  | .brk, st => (match st with | .Break _ => true | _ => false)
  | .cont, st => (match st with | .Continue _ => true | _ => false)
  | .set i e, st => (match st with | .Assign [.Name y _] x _ => decide (N[i]? = some y) && (locB sc y && isE N e sc x) | _ => false)
  | .tset is e, st => (match st with | .Assign [.Tuple ts _ _] x _ => noTL x && (isNames N sc is ts && isE N e sc x) | _ => false)
  | .tpar i j e, st => (match st with
    | .Assign [.Tuple [.Name x p, .Name y q] _ _] (.Tuple [u, v] _ _) _ => decide (N[i]? = some x) && (decide (N[j]? = some y) && (decide (i ≠ j) && (decide (x ≠ y) && (decide (sc.names.lookup x = some .local) && (decide (sc.names.lookup y = some .local) && ((q.line == p.line) && (!([u, v].all (foldedForSure 8)) && (!([u, v].all (constantsAlone 8)) && isEs N e sc [u, v]))))))))
    | _ => false)
  | .sub o i e, st => (match st with | .Assign [.Subscript y z _] x _ => noLC x && (plainX z && (isE N o sc y && (isE N i sc z && isE N e sc x))) | _ => false)
  | .if_ c a b, st => (match st with | .If x as bs _ => isE N c sc x && (isSs N sc a as && isSs N sc b bs) | _ => false)
  | .while_ c a, st => (match st with | .While x as [] _ => isE N c sc x && isSs N sc a as | _ => false)
  | .for_ k is src a, st => (match st with | .For tg it as [] _ => isTgt N sc is tg && (plainX it && (isSrc N k src sc it && isSs N sc a as)) | _ => false)
  | .never, _ => true
  | .raise0 c, st => (match st with | .Raise (some (.Call (.Name x _) [.Constant (.str _) _ _] [] _)) none _ => decide (x = c) && glB sc x | _ => false)
  | .raise1 c e, st => (match st with | .Raise (some (.Call (.Name x _) [y] [] _)) none _ => decide (x = c) && (decide (x = "Over") && (glB sc x && (plainX y && isE N e sc y))) | _ => false)
  | .tryc i e x n j, st => (match st with
    | .Try [.Assign [.Name y _] ex _] [.ExceptHandler (some (.Name x' _)) (some n') [.Assign [.Name m _] (.Name n2 _) _] _] [] [] _ =>
      decide (x' = "ScoreError") && (glB sc x' && (decide (N[i]? = some y) && (locB sc y && (noLC ex && (isE N e sc ex && (canR e && (decide (N[n]? = some n') && (decide (sc.names.lookup n' = some .local) && (decide (N[j]? = some m) && (decide (sc.names.lookup m = some .local) && (okNm n' && decide (n2 = n'))))))))))))
    | _ => false)
def isSs (N : List Str) (sc : Scope) : CS → List Stmt → Bool
  | .skip, sts => sts.isEmpty
  | .seq s r, sts => (match sts with | st :: sts => isS N sc s st && isSs N sc r sts | [] => false)
  | .never, _ => true
  | _, _ => false
end

structure GoodS (X : Cx) (N : List Str) (sc : Scope) (F : Fns) (k : Nat) : Prop extends Good X N sc F k where
  fn1 : X.fn = fun _ => true
  kind : sc.kind = .function
  stk : X.stack = X.env :: X.outer
  frm : X.env.frame = some X.env.locals
  ex0 : X.ex = []
def SSt (X : Cx) (F : Fns) (c : CS) (st : Stmt) : Prop := ∀ (env : Env) (s : Store) (σ : L2.St) (H : Hp) (ρ : List Addr) (D : Ends), RE X.K ρ H env σ → RS X.K ρ H s → PostF X.K ρ H (evalS F c env s) D → WSt X st D σ H
def SSs (X : Cx) (F : Fns) (c : CS) (sts : List Stmt) : Prop := ∀ (env : Env) (s : Store) (σ : L2.St) (H : Hp) (ρ : List Addr) (D : Ends), RE X.K ρ H env σ → RS X.K ρ H s → PostF X.K ρ H (evalS F c env s) D → WSs X sts D σ H
structure SndS (F : Fns) (k : Nat) (c : CS) : Prop where
  s : ∀ {X : Cx} {N : List Str} {sc : Scope} (G : GoodS X N sc F k) {st : Stmt}, isS N sc c st = true → SSt X F c st
  ss : ∀ {X : Cx} {N : List Str} {sc : Scope} (G : GoodS X N sc F k) {sts : List Stmt}, isSs N sc c sts = true → SSs X F c sts
section
variable {X : Cx} {N : List Str} {sc : Scope} {F : Fns} {k : Nat}
theorem noLC_swap {x : Expr} {t : Option Expr} {l : Nat} {env : PySem.Env} (h : noLC x = true) : swapsWith x t l env = pure false := by
  cases x <;> first | rfl | cases h
theorem noTL_lc {x : Expr} (h : noTL x = true) : noLC x = true := by
  cases x <;> first | rfl | cases h
theorem noTL_stores {x : Expr} {ts : List Expr} {j : Nat} {p : Pos} {env : PySem.Env} (h : noTL x = true) : swappedStores [.Tuple ts j p] x env = pure none := by
  cases x <;> first | rfl | cases h
theorem GoodS.hf (G : GoodS X N sc F k) (y : Str) : X.fn y = true ∨ X.env.scope.names.lookup y = some .local := .inl (by rw [G.fn1])
theorem PostF.here {K : PySem.W.Frag} {ρ : List Addr} {H : Hp} {env : Env} {st : Store} {D : Ends} {σ : L2.St} (h : PostF K ρ H (.ok (.next, env) st) D) (rs : RS K ρ H st) (re : RE K ρ H env σ) : D.nx σ H := h σ H ρ Ex.refl Gr.refl rs re
/-- several names are set -/
theorem names_set (G : GoodS X N sc F k) : ∀ {is : List Nat} {ts : List Expr}, isNames N sc is ts = true → ∃ g : TGs, PGs X ts g ∧ (assignEach ts X.env).length = is.length ∧ (assignEach ts X.env).findIdx? (·.1) = none ∧
    ∀ (xs : List Val) (vs : List V) (env env1 : Env) (σ : L2.St) (H : Hp) (ρ : List Addr) (Q : L2.St → Hp → Prop), setAll is xs env = some env1 → RVs X.K ρ H xs vs → RE X.K ρ H env σ → (∀ σ', RE X.K ρ H env1 σ' → Q σ' H) → g vs σ H Q
  | [], ts, h => by
    cases ts with
    | cons _ _ => cases h
    | nil =>
      refine ⟨_, pgs_nil, rfl, rfl, fun xs vs env env1 σ H ρ Q e rv re hq => ?_⟩
      cases xs with
      | cons _ _ => cases e
      | nil =>
        cases rv
        cases e
        exact ⟨rfl, hq σ re⟩
  | i :: is, ts, h => by
    unfold isNames at h
    split at h
    · rename_i y p ts
      simp only [Bool.and_eq_true, decide_eq_true_eq] at h
      obtain ⟨h1, h2, h3⟩ := h
      obtain ⟨g, g1, g2, g3, g4⟩ := names_set G h3
      have pn : PG X (.Name y p) (gName i) := pg_name (by rw [G.hN]; exact G.nd) (by rw [G.hN]; exact h1) (G.loc h2) (G.hf y)
      refine ⟨_, pgs_cons pn g1, ?_, ?_, fun xs vs env env1 σ H ρ Q e rv re hq => ?_⟩
      · show (assignEach ts X.env).length + 1 = _
        rw [g2]; rfl
      · show (((false, _) :: assignEach ts X.env).findIdx? (·.1)) = none
        rw [List.findIdx?_cons]
        simp only [Bool.false_eq_true, if_false, g3]
        rfl
      · cases xs with
        | nil => cases e
        | cons x xs =>
          cases rv with
          | cons r1 r2 =>
            refine ⟨_, _, rfl, ?_⟩
            exact g4 xs _ (env.set i (some x)) env1 _ H ρ Q e r2 (re.set r1) hq
    · cases h
theorem ss_of {c : CS} (h : ∀ {X : Cx} {N : List Str} {sc : Scope} (G : GoodS X N sc F k) {st : Stmt}, isS N sc c st = true → SSt X F c st) (h2 : ∀ N sc sts, isSs N sc c sts = false) : SndS F k c := ⟨h, fun {_ _ _} G {_} e => by rw [h2] at e; cases e⟩

theorem t_skip : SndS F k .skip := ⟨fun {_ _ _} G {_} h => (by cases h), fun {X N sc} G {sts} h => by
  intro env s σ H ρ D re rs hp
  cases sts with
  | nil => exact of_pss pss_nil (PostF.here hp rs re)
  | cons _ _ => cases h⟩
theorem t_seq {a r : CS} (ha : SndS F k a) (hr : SndS F k r) : SndS F k (.seq a r) := ⟨fun {_ _ _} G {_} h => (by cases h), fun {X N sc} G {sts} h => by
  intro env s σ H ρ D re rs hp
  cases sts with
  | nil => cases h
  | cons st sts =>
    have h : (isS N sc a st && isSs N sc r sts) = true := h
    simp only [Bool.and_eq_true] at h
    refine of_pss (pss_cons WSt.ps WSs.pss) ?_
    refine ha.s G h.1 env s σ H ρ _ re rs ?_
    obtain ⟨p, s1, e1, hp⟩ := PostF.bndX (r := evalS F a env s) hp
    rw [e1]
    obtain ⟨f, env1⟩ := p
    intro σ' H' ρ' x1 g1 rs1 re1
    cases f with
    | next => exact hr.ss G h.2 env1 s1 σ' H' ρ' D re1 rs1 (PostF.mono hp x1 g1)
    | brk => exact hp σ' H' ρ' x1 g1 rs1 re1
    | cont => exact hp σ' H' ρ' x1 g1 rs1 re1
    | ret v => exact hp σ' H' ρ' x1 g1 rs1 re1⟩
theorem t_never : SndS F k .never := ⟨fun {_ _ _} G {_} h => fun env s σ H ρ D re rs hp => hp.elim, fun {_ _ _} G {_} h => fun env s σ H ρ D re rs hp => hp.elim⟩
theorem t_expr (e : CE) : SndS F k (.expr e) := by
  refine ss_of (fun {X N sc} G {st} h => ?_) (fun _ _ _ => rfl)
  intro env s σ H ρ D re rs hp
  cases st with
  | Expr x p =>
    have h : (noLC x && isE N e sc x) = true := h
    simp only [Bool.and_eq_true] at h
    obtain ⟨v, s1, e1, hp⟩ := PostF.bndX (r := evalE F e env s) hp
    refine of_ps (ps_expr WE.pe (noLC_swap h.1)) (se_use ((snd_all e).e G.toGood h.2) re rs e1 fun V H1 ρ1 x1 g1 rs1 re1 rv1 => ?_)
    exact PostF.here (PostF.mono hp x1 g1) rs1 re1
  | _ => cases h
theorem t_ret (e : CE) : SndS F k (.ret e) := by
  refine ss_of (fun {X N sc} G {st} h => ?_) (fun _ _ _ => rfl)
  intro env s σ H ρ D re rs hp
  cases st with
  | Return x p =>
    cases x with
    | none => cases h
    | some x =>
      have h : isE N e sc x = true := h
      obtain ⟨v, s1, e1, hp⟩ := PostF.bndX (r := evalE F e env s) hp
      refine of_ps (ps_ret WE.pe) (se_use ((snd_all e).e G.toGood h) re rs e1 fun V H1 ρ1 x1 g1 rs1 re1 rv1 => ?_)
      exact hp σ H1 ρ1 x1 g1 rs1 re1 V rv1
  | _ => cases h
theorem t_retN : SndS F k .retN := by
  refine ss_of (fun {X N sc} G {st} h => ?_) (fun _ _ _ => rfl)
  intro env s σ H ρ D re rs hp
  cases st with
  | Return x p =>
    cases x with
    | none => exact of_ps ps_retN (hp σ H ρ Ex.refl Gr.refl rs re .non .none)
    | some x => cases h
  | _ => cases h
theorem t_pass : SndS F k .pass := by
  refine ss_of (fun {X N sc} G {st} h => ?_) (fun _ _ _ => rfl)
  intro env s σ H ρ D re rs hp
  cases st with
  | Pass p => exact of_ps ps_pass (PostF.here hp rs re)
  | _ => cases h
theorem t_brk : SndS F k .brk := by
  refine ss_of (fun {X N sc} G {st} h => ?_) (fun _ _ _ => rfl)
  intro env s σ H ρ D re rs hp
  cases st with
  | Break p => exact of_ps ps_break (hp σ H ρ Ex.refl Gr.refl rs re)
  | _ => cases h
theorem t_cont : SndS F k .cont := by
  refine ss_of (fun {X N sc} G {st} h => ?_) (fun _ _ _ => rfl)
  intro env s σ H ρ D re rs hp
  cases st with
  | Continue p => exact of_ps ps_continue (hp σ H ρ Ex.refl Gr.refl rs re)
  | _ => cases h
/-- y = [..]: whether the model swaps -/
def lcSwap (sc : Scope) (y : Str) (py : Pos) (scope : Scope) (vp : Pos) : Bool := (sc.names.lookup y == some .local) && ((py.line == vp.line) && !(scope.names.any fun (n, k) => n == y && (k == .local || k == .cell)))
theorem lc_swaps {el : Expr} {gs : List Comprehension} {scope : Scope} {q py : Pos} {y : Str} {l : Nat} {env : PySem.Env} (hk : env.scope.kind = .function) (h : lcSwap env.scope y py scope q = false) :
    swapsWith (.ListComp el gs scope q) (some (.Name y py)) l env = pure false := by
  have hb : env.blockKind = .function := by unfold Env.blockKind; rw [hk]; rfl
  have e : (env.blockKind == .function && env.kindOf y == some .local && py.line == q.line && !(scope.names.any fun (n, k) => n == y && (k == .local || k == .cell))) = false := by
    rw [hb]
    unfold lcSwap at h
    show ((ScopeKind.function == ScopeKind.function) && (env.scope.names.lookup y == some .local) && (py.line == q.line) && _) = false
    cases a : (env.scope.names.lookup y == some NameKind.local) <;> rw [a] at h <;> cases b : (py.line == q.line) <;> rw [b] at h <;> first | rfl | (simp only [Bool.true_and] at h; rw [h]; rfl)
  unfold swapsWith
  simp only [Expr.pos]
  show (pure _ : Sem Bool) = pure false
  exact congrArg pure e
theorem t_set (i : Nat) (e : CE) : SndS F k (.set i e) := by
  refine ss_of (fun {X N sc} G {st} h => ?_) (fun _ _ _ => rfl)
  intro env s σ H ρ D re rs hp
  unfold isS at h
  split at h
  · rename_i y py x pos
    simp only [Bool.and_eq_true, decide_eq_true_eq] at h
    obtain ⟨h1, h2, h3⟩ := h
    have hN : X.N.Nodup := by rw [G.hN]; exact G.nd
    have hi : X.N[i]? = some y := by rw [G.hN]; exact h1
    have plain : swapsWith x (some (.Name y py)) pos.line X.env = pure false → WSt X (.Assign [.Name y py] x pos) D σ H := fun hsw => by
      obtain ⟨v, s1, e1, hp⟩ := PostF.bndX (r := evalE F e env s) hp
      refine of_ps (ps_set hN hi (G.loc h2) WE.pe hsw (G.hf y)) (se_use ((snd_all e).e G.toGood h3) re rs e1 fun V H1 ρ1 x1 g1 rs1 re1 rv1 => ?_)
      exact PostF.here (PostF.mono hp x1 g1) rs1 (re1.set rv1)
    by_cases hx : noLC x = true
    · exact plain (noLC_swap hx)
    · cases e with
      | comp kd ci src cond elt =>
        obtain ⟨el, z, p, it, ifs, scope, q, rfl, k1, k2, k3, k4, k5, k6, k7⟩ := isE_comp h3
        cases hs : lcSwap sc y py scope q with
        | false => exact plain (lc_swaps (by rw [G.hsc]; exact G.kind) (by rw [G.hsc]; exact hs))
        | true =>
          unfold lcSwap at hs
          simp only [Bool.and_eq_true, Bool.not_eq_true', beq_iff_eq] at hs
          obtain ⟨l1, l2, l3⟩ := hs
          have G0 := G.toGood
          refine of_ps (ps_setLc (i := i) (own := [(z, ci)]) (g := gName ci) (tt := tIfs X scope ifs) (te := tElt X scope el) G.calm hN hi (by rw [G.hsc]; exact l1) (sw_true (by rw [G.hsc]; exact G.kind) (by rw [G.hsc]; exact l1) (by rw [beq_iff_eq]; exact l2) l3) WI.pi (blkOk_by (by rw [G.hN, G.hsc]; exact k1)) (fun s H0 C cl fp => ?_) (fun s H0 C cl fp => ?_) (fun s H0 C cl fp => ?_) (plain_fold k4)) ?_
          · have G2 := G0.blk s H0 C cl fp ci z k1
            exact pg_name (by rw [G2.hN]; exact G2.nd) (by rw [G2.hN]; exact k2) (.inl (by rw [G2.hsc]; exact k3)) (.inr (by rw [G2.hsc]; exact k3))
          · exact ⟨fun pins s' σ' H' Q' I h => WTs.pts.run pins s' σ' H' Q' I (h s H0 C cl fp)⟩
          · exact ⟨fun pins s' σ' H' Q' I h => (h s H0 C cl fp) pins s' I⟩
          · show tLc (WI X _ it) (gName ci) (tIfs X scope ifs) (tElt X scope el) [ci] σ H (fun x H1 => gName i x σ H1 D.nx)
            refine comp_read G0 (snd_all src) (snd_all cond) (snd_all elt) k1 k5 k6 k7 re rs ?_
            obtain ⟨v, s1, e1, hp⟩ := PostF.bndX (r := evalE F (.comp kd ci src cond elt) env s) hp
            rw [e1]
            exact fun V H1 ρ1 x1 g1 rs1 rv1 => PostF.here (PostF.mono hp x1 g1) rs1 ((re.mono x1 g1).set rv1)
      | _ =>
        exfalso
        apply hx
        cases x <;> first | rfl | cases h3
  · cases h
theorem t_tset (is : List Nat) (e : CE) : SndS F k (.tset is e) := by
  refine ss_of (fun {X N sc} G {st} h => ?_) (fun _ _ _ => rfl)
  intro env s σ H ρ D re rs hp
  unfold isS at h
  split at h
  · rename_i ts j tp x pos
    simp only [Bool.and_eq_true] at h
    obtain ⟨h1, h2, h3⟩ := h
    obtain ⟨g, g1, g2, g3, g4⟩ := names_set G h2
    obtain ⟨v, s1, e1, hp⟩ := PostF.bnd (r := evalE F e env s) hp
    refine of_ps (ps_asg WE.pe (pg_tup (n := is.length) G.calm g1 g2 g3) (show swapsWith x (some (.Tuple ts j tp)) pos.line X.env = pure false from noLC_swap (noTL_lc h1)) (noTL_stores h1) rfl) (se_use ((snd_all e).e G.toGood h3) re rs e1 fun V H1 ρ1 x1 g1' rs1 re1 rv1 => ?_)
    cases rv1 with
    | @tup xs a vs hs hv =>
      have hp : PostF X.K ρ H (match setAll is xs env with | some env1 => .ok (.next, env1) s1 | none => .stuck) D := hp
      cases e2 : setAll is xs env with
      | none => rw [e2] at hp; exact hp.elim
      | some env1 =>
        rw [e2] at hp
        have hl : ∀ (is : List Nat) (xs : List Val) (env env1 : Env), setAll is xs env = some env1 → xs.length = is.length := by
          intro is
          induction is with
          | nil => intro xs env env1 e; cases xs with
            | nil => rfl
            | cons _ _ => cases e
          | cons i is ih => intro xs env env1 e; cases xs with
            | nil => cases e
            | cons x xs => rw [List.length_cons, List.length_cons, ih xs _ _ e]
        refine ⟨a, vs, rfl, hs, by rw [← hv.length]; exact hl is xs env env1 e2, ?_⟩
        exact g4 xs vs env env1 σ H1 ρ1 D.nx e2 hv re1 fun σ' re' => PostF.here (PostF.mono hp x1 g1') rs1 re'
    | _ => exact hp.elim
  · cases h
theorem swap_two {x y : Str} {u v : Expr} {p q pt pt2 : Pos} {kt k2 : Nat} {env : PySem.Env} (hk : env.scope.kind = .function) (hx : env.scope.names.lookup x = some .local) (hy : env.scope.names.lookup y = some .local) (hl : (q.line == p.line) = true) (hne : x ≠ y) (pu : plainX u = true) (pv : plainX v = true) (hf : [u, v].all (foldedForSure 8) = false) (hc : [u, v].all (constantsAlone 8) = false) :
    swappedStores [.Tuple [.Name x p, .Name y q] kt pt] (.Tuple [u, v] k2 pt2) env = pure (some [x, y]) := by
  have hb : env.blockKind = .function := by
    unfold PySem.Env.blockKind
    rw [hk]; rfl
  have hs : ([u, v].any fun | .Starred .. => true | _ => false) = false := by
    have : ∀ e : Expr, plainX e = true → (match e with | .Starred .. => true | _ => false) = false := fun e h => by cases e <;> first | rfl | cases h
    simp only [List.any_cons, List.any_nil, Bool.or_false]
    rw [this u pu, this v pv]; rfl
  have hn : ([Expr.Name x p, .Name y q].filterMap fun
    | .Name id pos => if env.kindOf id == some .local && pos.line == p.line then some id else none
    | _ => none) = [x, y] := by
    have kx : (env.kindOf x == some .local) = true := by unfold PySem.Env.kindOf; rw [hx]; rfl
    have ky : (env.kindOf y == some .local) = true := by unfold PySem.Env.kindOf; rw [hy]; rfl
    simp only [List.filterMap_cons, List.filterMap_nil, kx, ky, hl, Bool.true_and, beq_self_eq_true, if_true]
  have hd : ([x, y].eraseDups.length != [x, y].length) = false := by
    have : [x, y].eraseDups = [x, y] := by
      rw [List.eraseDups_cons]
      have e : (y == x) = false := by simp; exact fun h => hne h.symm
      simp [e]
      rfl
    rw [this]; rfl
  unfold swappedStores
  simp only [hb]
  show (if ([u, v].any fun | .Starred .. => true | _ => false) = true then pure none else
    if (([Expr.Name x p, .Name y q].filterMap fun
      | .Name id pos => if env.kindOf id == some .local && pos.line == p.line then some id else none
      | _ => none).length != 2 || (([Expr.Name x p, .Name y q].filterMap fun
      | .Name id pos => if env.kindOf id == some .local && pos.line == p.line then some id else none
      | _ => none).eraseDups.length != ([Expr.Name x p, .Name y q].filterMap fun
      | .Name id pos => if env.kindOf id == some .local && pos.line == p.line then some id else none
      | _ => none).length)) = true then pure none else _) = _
  rw [hs, hn, hd, hf, hc]
  exact congrArg (fun z => (pure (some z) : Sem (Option (List Str)))) hn
theorem t_tpar (i j : Nat) (e : CE) : SndS F k (.tpar i j e) := by
  refine ss_of (fun {X N sc} G {st} h => ?_) (fun _ _ _ => rfl)
  intro env s σ H ρ D re rs hp
  unfold isS at h
  split at h
  · rename_i x p y q kt pt u v k2 pt2 pos
    simp only [Bool.and_eq_true, decide_eq_true_eq, Bool.not_eq_true'] at h
    obtain ⟨h1, h2, h3, h4, h5, h6, h7, h8, h9, h10⟩ := h
    obtain ⟨w, s1, e1, hp⟩ := PostF.bnd (r := evalE F e env s) hp
    have pl := isEs_plain h10
    simp only [List.all_cons, List.all_nil, Bool.and_true, Bool.and_eq_true] at pl
    have G2 := G.toGood
    split at hp
    · rename_i a b
      refine of_ps (ps_par G.calm (by rw [G2.hN]; exact G2.nd) (by rw [G2.hN]; exact h1) (by rw [G2.hN]; exact h2) h3 (by rw [G2.hsc]; exact h5) (by rw [G2.hsc]; exact h6) WA.pa (swap_two (by rw [G2.hsc]; exact G.kind) (by rw [G2.hsc]; exact h5) (by rw [G2.hsc]; exact h6) h7 h4 pl.1 pl.2 h8 h9)) ?_
      refine sa_use ((snd_all e).a G2 h10) re rs e1 fun vs H1 ρ1 x1 g1 rs1 re1 rv1 => ?_
      cases rv1 with
      | cons r1 rl =>
        cases rl with
        | cons r2 rl =>
          cases rl
          exact ⟨_, _, rfl, PostF.here (PostF.mono hp x1 g1) rs1 ((re1.set r1).set r2)⟩
    · exact hp.elim
  · cases h
/-- o[i] = v of a list or of a dict -/
def rSetA : TSet := fun o i v H Q => rSetL o i v H Q ∨ rSetD o i v H Q
theorem set_any {X : Cx} (hu : X.A.units + 1 < cLine) : PSet X rSetA := by
  intro pins s σ H o i v ov iv u Q I ro ri rv h
  rcases h with h | h
  · exact set_list pins s σ H o i v ov iv u Q I ro ri rv h
  · exact set_dict hu pins s σ H o i v ov iv u Q I ro ri rv h
theorem t_sub (o i e : CE) : SndS F k (.sub o i e) := by
  refine ss_of (fun {X N sc} G {st} h => ?_) (fun _ _ _ => rfl)
  intro env s σ H ρ D re rs hp
  unfold isS at h
  split at h
  · rename_i y z q x pos
    simp only [Bool.and_eq_true] at h
    obtain ⟨h1, h2, h3, h4, h5⟩ := h
    obtain ⟨v, s1, e1, hp⟩ := PostF.bnd (r := evalE F e env s) hp
    obtain ⟨ov, s2, e2, hp⟩ := PostF.bnd (r := evalE F o env s1) hp
    obtain ⟨iv, s3, e3, hp⟩ := PostF.bnd (r := evalE F i env s2) hp
    obtain ⟨u, s4, e4, hp⟩ := PostF.bnd (r := subStore ov iv v s3) hp
    have ha : ∀ w, assign (.Subscript y z q) X.env w = (do
      let ov ← holding [w] (eval y X.env)
      let iv ← holding [w, ov] (eval z X.env)
      standAt q
      holding [w, ov, iv] (setItem ov iv w)
      release [w, ov, iv] []) := by
      intro w
      cases z <;> first | rfl | cases h2
    refine of_ps (ps_asg WE.pe (pg_sub WE.pe WE.pe (set_any (by have := G.toGood.units; omega)) ha) (show swapsWith x (some (.Subscript y z q)) pos.line X.env = pure false from noLC_swap h1) (by cases x <;> rfl) rfl) (se_use ((snd_all e).e G.toGood h5) re rs e1 fun V H1 ρ1 x1 g1 rs1 re1 rv1 => ?_)
    refine se_use ((snd_all o).e G.toGood h3) re1 rs1 e2 fun O H2 ρ2 x2 g2 rs2 re2 rv2 => ?_
    refine se_use ((snd_all i).e G.toGood h4) re2 rs2 e3 fun I H3 ρ3 x3 g3 rs3 re3 rv3 => ?_
    have rv1' := RV.mono (x2.trans x3) (g2.trans g3) _ _ rv1
    have rv2' := RV.mono x3 g3 _ _ rv2
    cases rv2' with
    | @ref n a hn =>
      have e4 : (match s3[n]? with
        | some (.lst xs) => (match iv with
          | .int k => (match L2.ixN xs.length k with | some j => Res.ok () (s3.set n (.lst (xs.set j v))) | none => .stuck)
          | _ => .stuck)
        | some (.dict kvs) => (match keyOf iv with
          | some k => need (kvs.length < sizeLine) (.ok () (s3.set n (.dict (putKV kvs k v))))
          | none => .stuck)
        | _ => .stuck) = .ok u s4 := e4
      split at e4
      · rename_i xs ex
        cases rv3 with
        | int kk =>
          replace e4 : (match L2.ixN xs.length kk with | some j => Res.ok () (s3.set n (.lst (xs.set j v))) | none => .stuck) = .ok u s4 := e4
          cases ej : L2.ixN xs.length kk with
          | none => rw [ej] at e4; cases e4
          | some j =>
            rw [ej] at e4
            cases e4
            obtain ⟨ws, c1, c2⟩ := rs3.at_ ex hn
            have hg : Gr X.K H3 (upd H3 a (.lst (ws.set j V))) := Gr.write c1 (fun _ z => nomatch z) (fun _ _ z => nomatch z)
            refine .inl ⟨a, ws, kk, j, rfl, rfl, c1, by rw [← c2.length]; exact ej, ?_⟩
            exact PostF.here (PostF.mono hp (x1.trans (x2.trans x3)) (g1.trans (g2.trans (g3.trans hg)))) (rs3.write (c' := .lst (xs.set j v)) ex hn rfl rfl hg ⟨_, upd_same, RVs.mono Ex.refl hg _ _ (RVs.set rv1' j c2)⟩) (re3.mono Ex.refl hg)
        | _ => cases e4
      · rename_i kvs ex
        cases ek : keyOf iv with
        | none => rw [ek] at e4; cases e4
        | some k =>
          rw [ek] at e4
          obtain ⟨hlen, e4⟩ := need_ok e4
          cases e4
          have := keyOf_ok rv3 ek
          subst this
          obtain ⟨ws, c1, c2⟩ := rs3.at_ ex hn
          have hg : Gr X.K H3 (upd H3 a (.dK (putK ws k V))) := Gr.write c1 (fun _ z => nomatch z) (fun _ _ z => nomatch z)
          refine .inr ⟨a, _, rfl, DPut.k c1 (by rw [← c2.length]; exact hlen), ?_⟩
          exact PostF.here (PostF.mono hp (x1.trans (x2.trans x3)) (g1.trans (g2.trans (g3.trans hg)))) (rs3.write (c' := .dict (putKV kvs k v)) ex hn rfl rfl hg ⟨_, upd_same, (c2.put rv1').mono Ex.refl hg⟩) (re3.mono Ex.refl hg)
      · cases e4
    | _ => cases e4
  · cases h
theorem t_if {c : CE} {a b : CS} (ha : SndS F k a) (hb : SndS F k b) : SndS F k (.if_ c a b) := by
  refine ss_of (fun {X N sc} G {st} h => ?_) (fun _ _ _ => rfl)
  intro env s σ H ρ D re rs hp
  cases st with
  | If x as bs p =>
    have h : (isE N c sc x && (isSs N sc a as && isSs N sc b bs)) = true := h
    simp only [Bool.and_eq_true] at h
    obtain ⟨v, s1, e1, hp1⟩ := PostF.bnd (r := evalE F c env s) hp
    obtain ⟨t, s2, e2, hp2⟩ := PostF.bnd (r := testV v s1) hp1
    obtain ⟨e3, e4⟩ := testV_eq e2
    rw [e4] at hp2
    refine of_ps (ps_if WT.pt WSs.pss WSs.pss) (st_use ((snd_all c).t G.toGood h.1) re rs e1 e3 fun H1 ρ1 x1 g1 rs1 re1 => ?_)
    cases t with
    | true => exact ha.ss G h.2.1 env s1 σ H1 ρ1 D re1 rs1 (PostF.mono hp2 x1 g1)
    | false => exact hb.ss G h.2.2 env s1 σ H1 ρ1 D re1 rs1 (PostF.mono hp2 x1 g1)
  | _ => cases h
theorem t_while {c : CE} {a : CS} (ha : SndS F k a) : SndS F k (.while_ c a) := by
  refine ss_of (fun {X N sc} G {st} h => ?_) (fun _ _ _ => rfl)
  intro env s σ H ρ D re rs hp
  cases st with
  | While x as os p =>
    cases os with
    | cons _ _ => cases h
    | nil =>
      have h : (isE N c sc x && isSs N sc a as) = true := h
      simp only [Bool.and_eq_true] at h
      refine of_ps (ps_while G.pass WT.pt WSs.pss) ?_
      have hp : PostF X.K ρ H (whileLoop (fun env s => (evalE F c env s).bind fun x s1 => testV x s1) (fun env s => evalS F a env s) F.fuel env s) D := hp
      refine ⟨fun m σ H => ∃ env st ρ', Ex ρ ρ' ∧ RS X.K ρ' H st ∧ RE X.K ρ' H env σ ∧ PostF X.K ρ' H (whileLoop (fun env s => (evalE F c env s).bind fun x s1 => testV x s1) (fun env s => evalS F a env s) m env st) D, ⟨F.fuel, env, s, ρ, Ex.refl, rs, re, hp⟩, ?_⟩
      rintro m σ H ⟨env, st, ρ', x0, rs, re, hp⟩
      cases m with
      | zero => exact hp.elim
      | succ m =>
        unfold whileLoop at hp
        obtain ⟨t, s2, e2, hp1⟩ := PostF.bnd hp
        obtain ⟨v, s1, e1, e3⟩ := bind_eq_ok e2
        obtain ⟨e4, e5⟩ := testV_eq e3
        rw [e5] at hp1
        refine st_use ((snd_all c).t G.toGood h.1) re rs e1 e4 fun H1 ρ1 x1 g1 rs1 re1 => ?_
        cases t with
        | false => exact PostF.here (PostF.mono hp1 x1 g1) rs1 re1
        | true =>
          refine ⟨fun σ H => ∃ env st ρ', Ex ρ ρ' ∧ RS X.K ρ' H st ∧ RE X.K ρ' H env σ ∧ PostF X.K ρ' H (whileLoop (fun env s => (evalE F c env s).bind fun x s1 => testV x s1) (fun env s => evalS F a env s) m env st) D, fun σ' H' q => ⟨m, Nat.lt_succ_self m, q⟩, ?_⟩
          refine ha.ss G h.2 env s1 σ H1 ρ1 _ re1 rs1 ?_
          obtain ⟨p, s6, e6, hp2⟩ := PostF.bnd (r := evalS F a env s1) hp1
          rw [e6]
          obtain ⟨f, env1⟩ := p
          intro σ' H' ρ2 x2 g2 rs2 re2
          cases f with
          | next => exact ⟨env1, s6, ρ2, x0.trans (x1.trans x2), rs2, re2, PostF.mono hp2 (x1.trans x2) (g1.trans g2)⟩
          | cont => exact ⟨env1, s6, ρ2, x0.trans (x1.trans x2), rs2, re2, PostF.mono hp2 (x1.trans x2) (g1.trans g2)⟩
          | brk => exact PostF.here (PostF.mono hp2 (x1.trans x2) (g1.trans g2)) rs2 re2
          | ret v => exact hp2 σ' H' ρ2 (x1.trans x2) (g1.trans g2) rs2 re2
  | _ => cases h
/-- a for's target -/
theorem tgt_ok (G : GoodS X N sc F k) {is : List Nat} {tg : Expr} (h : isTgt N sc is tg = true) : ∃ g : TG, PG X tg g ∧
    ∀ (x : Val) (v : V) (env env1 : Env) (σ : L2.St) (H : Hp) (ρ : List Addr) (Q : L2.St → Hp → Prop), bindTo is x env = some env1 → RV X.K ρ H x v → RE X.K ρ H env σ → (∀ σ', RE X.K ρ H env1 σ' → Q σ' H) → g v σ H Q := by
  cases tg with
  | Name y p =>
    unfold isTgt at h
    simp only at h
    split at h
    · rename_i i
      simp only [Bool.and_eq_true, decide_eq_true_eq] at h
      refine ⟨_, pg_name (by rw [G.hN]; exact G.nd) (by rw [G.hN]; exact h.1) (G.loc h.2) (G.hf y), fun x v env env1 σ H ρ Q e rv re hq => ?_⟩
      cases e
      exact hq _ (re.set rv)
    · cases h
  | Tuple ts j p =>
    have h : (decide (2 ≤ is.length) && isNames N sc is ts) = true := h
    simp only [Bool.and_eq_true, decide_eq_true_eq] at h
    obtain ⟨g, g1, g2, g3, g4⟩ := names_set G h.2
    refine ⟨_, pg_tup (n := is.length) G.calm g1 g2 g3, fun x v env env1 σ H ρ Q e rv re hq => ?_⟩
    have e' : ∃ xs, x = .tup xs ∧ setAll is xs env = some env1 := by
      unfold bindTo at e
      split at e
      · rename_i hl; simp at h
      · exact ⟨_, rfl, e⟩
      · cases e
    obtain ⟨xs, rfl, e2⟩ := e'
    cases rv with
    | @tup _ a vs hs hv =>
      have hl : ∀ (is : List Nat) (xs : List Val) (env env1 : Env), setAll is xs env = some env1 → xs.length = is.length := by
        intro is
        induction is with
        | nil => intro xs env env1 e; cases xs with
          | nil => rfl
          | cons _ _ => cases e
        | cons i is ih => intro xs env env1 e; cases xs with
          | nil => cases e
          | cons x xs => rw [List.length_cons, List.length_cons, ih xs _ _ e]
      exact ⟨a, vs, rfl, hs, by rw [← hv.length]; exact hl is xs env env1 e2, g4 xs vs env env1 σ H ρ Q e2 hv re hq⟩
  | _ => cases h
theorem t_for {kd : Src} {is : List Nat} {src : CE} {a : CS} (ha : SndS F k a) : SndS F k (.for_ kd is src a) := by
  refine ss_of (fun {X N sc} G {st} h => ?_) (fun _ _ _ => rfl)
  intro env s σ H ρ D re rs hp
  cases st with
  | For tg it as os p =>
    cases os with
    | cons _ _ => cases h
    | nil =>
      have h : (isTgt N sc is tg && (plainX it && (isSrc N kd src sc it && isSs N sc a as))) = true := h
      simp only [Bool.and_eq_true] at h
      obtain ⟨h1, h2, h3, h4⟩ := h
      obtain ⟨g, pg, gq⟩ := tgt_ok G h1
      obtain ⟨v, s1, e1, hp⟩ := PostF.bnd (r := evalE F src env s) hp
      cases e2 : srcItems kd v s1 with
      | none => rw [e2] at hp; exact hp.elim
      | some xs =>
        rw [e2] at hp
        refine of_ps (ps_for G.pass G.calm WI.pi pg WSs.pss (plain_fold h2)) ?_
        refine src_use G.toGood (snd_all src) h3 re rs e1 e2 fun J H1 ρ1 x1 g1 rs1 re1 jok => ?_
        have hp1 : PostF X.K ρ1 H1 (forLoop is (stays kd v xs) (fun env s => evalS F a env s) xs env s1) D := PostF.mono hp x1 g1
        clear hp
        refine ⟨fun j m σ Hc => m = xs.length - j ∧ j ≤ xs.length ∧ ∃ env st' ρ', Ex ρ1 ρ' ∧ Gr X.K H1 Hc ∧ RS X.K ρ' Hc st' ∧ RE X.K ρ' Hc env σ ∧ PostF X.K ρ' Hc (forLoop is (stays kd v xs) (fun env s => evalS F a env s) (xs.drop j) env st') D,
          ⟨xs.length, by simp, Nat.zero_le _, env, s1, ρ1, Ex.refl, Gr.refl, rs1, re1, hp1⟩, ?_⟩
        rintro j m σ Hc ⟨rfl, hj, env, st', ρ', x2, g2, rs2, re2, hp2⟩
        by_cases hlt : j < xs.length
        · obtain ⟨z, hz⟩ : ∃ z, xs[j]? = some z := ⟨_, List.getElem?_eq_getElem hlt⟩
          have hdr : xs.drop j = z :: xs.drop (j + 1) := by
            rw [List.drop_eq_getElem_cons hlt]
            rw [List.getElem?_eq_getElem hlt] at hz
            cases hz; rfl
          rw [hdr] at hp2
          unfold forLoop at hp2
          split at hp2
          · rename_i hst
            obtain ⟨j1, j2, _⟩ := jok ρ' Hc st' x2 g2 rs2 hst j
            refine .inr ⟨j1 hlt, fun σ Hc => ∃ env st' ρ', Ex ρ1 ρ' ∧ Gr X.K H1 Hc ∧ RS X.K ρ' Hc st' ∧ RE X.K ρ' Hc env σ ∧ PostF X.K ρ' Hc (forLoop is (stays kd v xs) (fun env s => evalS F a env s) (xs.drop (j + 1)) env st') D, fun σ' H' nx => ⟨xs.length - (j + 1), by omega, rfl, hlt, nx⟩, fun x H' yl => ?_⟩
            obtain ⟨eH, rvx⟩ := j2 x H' z hz yl
            subst eH
            cases eb : bindTo is z env with
            | none => rw [eb] at hp2; exact hp2.elim
            | some env1 =>
              rw [eb] at hp2
              refine gq z x env env1 σ _ ρ' _ eb rvx re2 fun σ' re3 => ?_
              refine ha.ss G h4 env1 st' σ' H' ρ' _ re3 rs2 ?_
              obtain ⟨p, s6, e6, hp3⟩ := PostF.bndX (r := evalS F a env1 st') hp2
              rw [e6]
              obtain ⟨f, env2⟩ := p
              intro σ2 H2 ρ2 x3 g3 rs3 re4
              cases f with
              | next => exact ⟨env2, s6, ρ2, x2.trans x3, g2.trans g3, rs3, re4, PostF.mono hp3 x3 g3⟩
              | cont => exact ⟨env2, s6, ρ2, x2.trans x3, g2.trans g3, rs3, re4, PostF.mono hp3 x3 g3⟩
              | brk => exact PostF.here (PostF.mono hp3 x3 g3) rs3 re4
              | ret v => exact hp3 σ2 H2 ρ2 x3 g3 rs3 re4
          · exact hp2.elim
        · have ej : j = xs.length := by omega
          subst ej
          rw [List.drop_length] at hp2
          unfold forLoop at hp2
          split at hp2
          · rename_i hst
            obtain ⟨_, _, j3⟩ := jok ρ' Hc st' x2 g2 rs2 hst xs.length
            exact .inl ⟨j3 (Nat.le_refl _), PostF.here hp2 rs2 re2⟩
          · exact hp2.elim
  | _ => cases h
theorem t_raise0 (c : Str) : SndS F k (.raise0 c) := by
  refine ss_of (fun {X N sc} G {st} h => ?_) (fun _ _ _ => rfl)
  intro env s σ H ρ D re rs hp
  have hp : PostF X.K ρ H (if c ∈ exc0 ∧ F.fuel % 2 = 1 then Res.exc c .none s else .stuck) D := hp
  split at hp <;> exact hp.elim
theorem t_raise1 (c : Str) (e : CE) : SndS F k (.raise1 c e) := by
  refine ss_of (fun {X N sc} G {st} h => ?_) (fun _ _ _ => rfl)
  intro env s σ H ρ D re rs hp
  have hp : PostF X.K ρ H (if c = "Over" ∧ F.fuel % 2 = 1 then ((evalE F e env s).bind fun v s1 => (Res.exc c v s1 : Res (Flow × Env))) else .stuck) D := hp
  split at hp
  · obtain ⟨v, s1, e1, hp⟩ := PostF.bnd (r := evalE F e env s) hp
    exact hp.elim
  · exact hp.elim
theorem RE.setNone {K : PySem.W.Frag} {ρ : List Addr} {H : Hp} {env : Env} {σ : L2.St} {i : Nat} (r : RE K ρ H env σ) : RE K ρ H (env.set i none) (σ.set i none) := by
  refine ⟨by rw [List.length_set, List.length_set, r.len], fun j w e => ?_⟩
  by_cases hj : i = j
  · subst hj
    have hi : i < env.length := by
      have := (List.getElem?_eq_some_iff.mp e).1
      simpa using this
    rw [List.getElem?_set_self hi] at e
    cases e
  · rw [List.getElem?_set_ne hj] at e ⊢
    exact r.at_ j w e
theorem Good.tr {X : Cx} {N : List Str} {sc : Scope} (G : Good X N sc F k) (pn : List (Addr × Obj)) (xe : Value → Shared → Prop) (po : PassesOwn (model X.prog X.w) X.A X.env xe) : Good (X.tr pn xe) N sc F k := ⟨G.hN, G.hsc, G.nd, G.calm, G.room, po, G.fns, G.exc, G.gl, G.free⟩
theorem t_try (i : Nat) (e : CE) (x : Str) (n j : Nat) : SndS F k (.tryc i e x n j) := by
  refine ss_of (fun {X N sc} G {st} h => ?_) (fun _ _ _ => rfl)
  intro env s σ H ρ D re rs hp
  unfold isS at h
  split at h
  · rename_i y py ex ap x' xp n' m mp n2 np mpos hpos tpos
    simp only [Bool.and_eq_true, decide_eq_true_eq] at h
    obtain ⟨h1, h2, h3, h4, h5, h6, h7, h8, h9, h10, h11, h13, h12⟩ := h
    subst h1 h12
    have hp : PostF X.K ρ H (if x = "ScoreError" ∧ F.fuel % 2 = 1 then (match evalE F e env s with
      | .ok v s1 => Res.ok (Flow.next, env.set i (some v)) s1
      | .exc c v s1 => .ok (.next, (env.set j (some (.ref s1.length))).set n none) (s1 ++ [.inst c (excFs c v)])
      | .stuck => .stuck) else .stuck) D := hp
    split at hp
    · rename_i hx
      have O := G.exc hx.2
      have hN : X.N.Nodup := by rw [G.hN]; exact G.nd
      have hi : X.N[i]? = some y := by rw [G.hN]; exact h3
      have hn : X.N[n]? = some n2 := by rw [G.hN]; exact h8
      have hj : X.N[j]? = some m := by rw [G.hN]; exact h10
      have hln : X.env.kindOf n2 = some .local := by
        show X.env.scope.names.lookup n2 = some .local
        rw [G.hsc]; exact h9
      have hlm : X.env.kindOf m = some .local := by
        show X.env.scope.names.lookup m = some .local
        rw [G.hsc]; exact h11
      refine of_ps (ps_try_keep (c := .ref (cA X.K "ScoreError")) (tb := fun W D σ H => ∀ pn xe, Takes (X.tr pn xe) W → PassesOwn (model X.prog X.w) X.A X.env xe → WSs (X.tr pn xe) [.Assign [.Name y py] ex ap] D σ H) G.stk G.frm hN hn hj hln hlm ⟨G.glo h2, by decide, .inl (O.gl "ScoreError" (.inl rfl))⟩ G.ex0 (fun W pn xe tk po => ⟨fun pins s σ H D I h => (h pn xe tk po) pins s I⟩) (fun a oe pn => ⟨fun pins s σ H D I h => ?_⟩)) ?_
      · exact (pss_one (ps_set (X := X.suite a ((a, oe) :: pn)) hN hj (.inl hlm) (pe_var (i := n) hn (.inl hln) (okNm1 h13) (okNm2 h13)) rfl (.inr hlm))).run pins s σ H D I ⟨_, h.1, h.2⟩
      · intro pn xe tk po
        have GY := G.toGood.tr pn xe po
        refine of_pss (pss_one (ps_set (X := X.tr pn xe) hN hi (G.loc h4) WE.pe (noLC_swap h5) (G.hf y))) ?_
        cases e1 : evalE F e env s with
        | ok v s1 =>
          rw [e1] at hp
          refine id (se_use (X := X.tr pn xe) ((snd_all e).e GY h6) re rs e1 fun V H1 ρ1 x1 g1 rs1 re1 rv1 => ?_)
          exact PostF.here (PostF.mono hp x1 g1) rs1 (re1.set rv1)
        | exc c v s1 =>
          rw [e1] at hp
          refine (rx_all e h7 (X := X.tr pn xe) GY tk).1 h6 env s σ H ρ _ re rs ?_
          rw [e1]
          intro cls d H' ρ' x1 g1 rs1 xr
          obtain ⟨C, n1, rfl, fr, hc⟩ := xr
          have hC : C = cA X.K c := by
            unfold cA
            have n1 : PySem.W.nsIn X.K mainGlobals c = some (some (.ref C)) := n1
            rw [n1]
          refine ⟨by rw [hC]; exact O.exm c hc, fun a ha => ?_⟩
          have gn : Gr X.K H' (upd H' a (exK a (.ref C) d)) := Gr.new ha
          have rc : RC X.K (ρ' ++ [a]) (upd H' a (exK a (.ref C) d)) (.inst c (excFs c v)) a := ⟨C, d, n1, by rw [upd_same], fr.mono ⟨[a], rfl⟩ gn, hc⟩
          have rs2 := rs1.alloc ha rc
          have rva : RV X.K (ρ' ++ [a]) (upd H' a (exK a (.ref C) d)) (.ref s1.length) (.ref a) := .ref (by rw [← rs1.len, List.getElem?_append_right (Nat.le_refl _)]; simp)
          refine hp _ _ (ρ' ++ [a]) (x1.trans ⟨[a], rfl⟩) (g1.trans gn) rs2 ?_
          have r1 := (re.mono (x1.trans ⟨[a], rfl⟩) (g1.trans gn)).set (i := n) rva
          have r2 := r1.set (i := j) rva
          have r3 := r2.setNone (i := n)
          -- the evaluator's slots: n is never seen
          refine ⟨?_, fun q w eq => ?_⟩
          · have := r3.len
            simpa using this
          · by_cases hq : n = q
            · subst hq
              have hl : n < (env.set j (some (.ref s1.length))).length := by
                have := (List.getElem?_eq_some_iff.mp eq).1
                simpa using this
              rw [List.getElem?_set_self hl] at eq
              cases eq
            · refine r3.at_ q w ?_
              rw [List.getElem?_set_ne hq] at eq ⊢
              by_cases hq2 : j = q
              · subst hq2
                have hl : j < env.length := by
                  have := (List.getElem?_eq_some_iff.mp eq).1
                  simpa using this
                rw [List.getElem?_set_self hl] at eq
                rw [List.getElem?_set_self (by simpa using hl)]
                exact eq
              · rw [List.getElem?_set_ne hq2] at eq ⊢
                rw [List.getElem?_set_ne hq]
                exact eq
        | stuck => rw [e1] at hp; exact hp.elim
    · exact hp.elim
  · cases h
/-- ALL STATEMENTS -/
theorem sndS_all : ∀ c : CS, SndS F k c := by
  intro c
  induction c with
  | skip => exact t_skip
  | seq a r ha hr => exact t_seq ha hr
  | expr e => exact t_expr e
  | ret e => exact t_ret e
  | retN => exact t_retN
  | pass => exact t_pass
  | brk => exact t_brk
  | cont => exact t_cont
  | set i e => exact t_set i e
  | tset is e => exact t_tset is e
  | tpar i j e => exact t_tpar i j e
  | sub o i e => exact t_sub o i e
  | if_ c a b ha hb => exact t_if ha hb
  | while_ c a ha => exact t_while ha
  | for_ kd is src a ha => exact t_for ha
  | never => exact t_never
  | raise0 c => exact t_raise0 c
  | raise1 c e => exact t_raise1 c e
  | tryc i e x n j => exact t_try i e x n j
end
end Ev

set_option Elab.async false
set_option linter.all false
set_option maxRecDepth 100000
set_option maxHeartbeats 4000000
/-! ## Functions, and the law's end -/
namespace Ev
open PySem PySem.Spec PyProof.Rows L2
/-! ### statements that raise -/
section
variable {F : Fns} {k : Nat}
def RaSt (X : Cx) (E : XK) (F : Fns) (c : CS) (st : Stmt) : Prop := ∀ (env : Env) (s : Store) (σ : L2.St) (H : Hp) (ρ : List Addr) (D : Ends), RE X.K ρ H env σ → RS X.K ρ H s → PostX X.K ρ H (evalS F c env s) E → WSt X st D σ H
def RaSs (X : Cx) (E : XK) (F : Fns) (c : CS) (sts : List Stmt) : Prop := ∀ (env : Env) (s : Store) (σ : L2.St) (H : Hp) (ρ : List Addr) (D : Ends), RE X.K ρ H env σ → RS X.K ρ H s → PostX X.K ρ H (evalS F c env s) E → WSs X sts D σ H
theorem nx_sub {o i v : Val} {st : Store} : NX (subStore o i v st) := by unfold subStore; ((repeat' split) <;> first | exact nx_ok | exact nx_stuck | exact nx_need nx_ok | exact nx_need nx_stuck)
theorem exc0_ndb {c : Str} (h : c ∈ exc0) : (c == ("__debug__" : Str)) = false ∧ c ≠ "Over" := by
  have : ∀ c ∈ exc0, (c == ("__debug__" : Str)) = false ∧ c ≠ "Over" := by decide +kernel
  exact this c h
theorem ra_all : ∀ c : CS, canRS c = true → ∀ {X : Cx} {N : List Str} {sc : Scope} {E : XK} (G : GoodS X N sc F k) (tk : Takes X (fun cls d _ H => E cls d H)), (∀ {st : Stmt}, isS N sc c st = true → RaSt X E F c st) ∧ (∀ {sts : List Stmt}, isSs N sc c sts = true → RaSs X E F c sts) := by
  intro c
  induction c with
  | skip => intro _ X N sc E G tk; exact ⟨fun {_} _ => fun env s σ H ρ D re rs hp => hp.elim, fun {_} _ => fun env s σ H ρ D re rs hp => hp.elim⟩
  | retN => intro _ X N sc E G tk; exact ⟨fun {_} _ => fun env s σ H ρ D re rs hp => hp.elim, fun {_} _ => fun env s σ H ρ D re rs hp => hp.elim⟩
  | pass => intro _ X N sc E G tk; exact ⟨fun {_} _ => fun env s σ H ρ D re rs hp => hp.elim, fun {_} _ => fun env s σ H ρ D re rs hp => hp.elim⟩
  | brk => intro _ X N sc E G tk; exact ⟨fun {_} _ => fun env s σ H ρ D re rs hp => hp.elim, fun {_} _ => fun env s σ H ρ D re rs hp => hp.elim⟩
  | cont => intro _ X N sc E G tk; exact ⟨fun {_} _ => fun env s σ H ρ D re rs hp => hp.elim, fun {_} _ => fun env s σ H ρ D re rs hp => hp.elim⟩
  | never => intro _ X N sc E G tk; exact ⟨fun {_} _ => fun env s σ H ρ D re rs hp => hp.elim, fun {_} _ => fun env s σ H ρ D re rs hp => hp.elim⟩
  | while_ c a _ => intro z; cases z
  | tryc i e x n j => intro z; cases z
  | seq a r iha ihr =>
    intro hc X N sc E G tk
    have hc' : (canRS a && canRS r) = true := hc
    simp only [Bool.and_eq_true] at hc'
    refine ⟨fun {_} h => (by cases h), fun {sts} h => ?_⟩
    intro env s σ H ρ D re rs hp
    cases sts with
    | nil => cases h
    | cons st sts =>
      have h : (isS N sc a st && isSs N sc r sts) = true := h
      simp only [Bool.and_eq_true] at h
      refine of_pss (pss_cons WSt.ps WSs.pss) ?_
      rcases PostX.bndX (r := evalS F a env s) hp with hp | ⟨p, s1, e1, hp⟩
      · exact (iha hc'.1 G tk).1 h.1 env s σ H ρ _ re rs hp
      · refine (sndS_all a).s G h.1 env s σ H ρ _ re rs ?_
        rw [e1]
        obtain ⟨f, env1⟩ := p
        intro σ' H' ρ' x1 g1 rs1 re1
        cases f with
        | next => exact (ihr hc'.2 G tk).2 h.2 env1 s1 σ' H' ρ' D re1 rs1 (PostX.mono hp x1 g1)
        | brk => exact hp.elim
        | cont => exact hp.elim
        | ret v => exact hp.elim
  | expr e =>
    intro hc X N sc E G tk
    refine ⟨fun {st} h => ?_, fun {sts} h => (by cases sts <;> cases h)⟩
    intro env s σ H ρ D re rs hp
    cases st with
    | Expr x p =>
      have h : (noLC x && isE N e sc x) = true := h
      simp only [Bool.and_eq_true] at h
      refine of_ps (ps_expr WE.pe (noLC_swap h.1)) ?_
      rcases PostX.bndX (r := evalE F e env s) hp with hp | ⟨v, s1, e1, hp⟩
      · exact (rx_all e hc G.toGood tk).1 h.2 env s σ H ρ _ re rs hp
      · exact hp.elim
    | _ => cases h
  | ret e =>
    intro hc X N sc E G tk
    refine ⟨fun {st} h => ?_, fun {sts} h => (by cases sts <;> cases h)⟩
    intro env s σ H ρ D re rs hp
    cases st with
    | Return x p =>
      cases x with
      | none => cases h
      | some x =>
        have h : isE N e sc x = true := h
        refine of_ps (ps_ret WE.pe) ?_
        rcases PostX.bndX (r := evalE F e env s) hp with hp | ⟨v, s1, e1, hp⟩
        · exact (rx_all e hc G.toGood tk).1 h env s σ H ρ _ re rs hp
        · exact hp.elim
    | _ => cases h
  | set i e =>
    intro hc X N sc E G tk
    refine ⟨fun {st} h => ?_, fun {sts} h => (by cases sts <;> cases h)⟩
    intro env s σ H ρ D re rs hp
    unfold isS at h
    split at h
    · rename_i y py x pos
      simp only [Bool.and_eq_true, decide_eq_true_eq] at h
      obtain ⟨h1, h2, h3⟩ := h
      have hN : X.N.Nodup := by rw [G.hN]; exact G.nd
      have hi : X.N[i]? = some y := by rw [G.hN]; exact h1
      rcases PostX.bndX (r := evalE F e env s) hp with hp | ⟨v, s1, e1, hp⟩
      · by_cases hx : noLC x = true
        · exact of_ps (ps_set hN hi (G.loc h2) WE.pe (noLC_swap hx) (G.hf y)) ((rx_all e hc G.toGood tk).1 h3 env s σ H ρ _ re rs hp)
        · exfalso
          cases e with
          | comp kd ci src cond elt => exact hp.nx (nx_E _ rfl env s)
          | _ =>
            apply hx
            cases x <;> first | rfl | cases h3
      · exact hp.elim
    · cases h
  | tset is e =>
    intro hc X N sc E G tk
    have no : ∀ env s, NX (evalS F (.tset is e) env s) := fun env s => nx_bind fun _ _ => by ((repeat' split) <;> first | exact nx_ok | exact nx_stuck | exact nx_need nx_ok | exact nx_need nx_stuck)
    exact ⟨fun {_} _ => fun env s σ H ρ D re rs hp => (hp.nx (no env s)).elim, fun {_} _ => fun env s σ H ρ D re rs hp => (hp.nx (no env s)).elim⟩
  | tpar i j e =>
    intro hc X N sc E G tk
    have no : ∀ env s, NX (evalS F (.tpar i j e) env s) := fun env s => nx_bind fun _ _ => by ((repeat' split) <;> first | exact nx_ok | exact nx_stuck | exact nx_need nx_ok | exact nx_need nx_stuck)
    exact ⟨fun {_} _ => fun env s σ H ρ D re rs hp => (hp.nx (no env s)).elim, fun {_} _ => fun env s σ H ρ D re rs hp => (hp.nx (no env s)).elim⟩
  | sub o i e =>
    intro hc X N sc E G tk
    have no : ∀ env s, NX (evalS F (.sub o i e) env s) := fun env s => nx_bind fun _ _ => nx_bind fun _ _ => nx_bind fun _ _ => nx_bind fun _ _ => nx_ok
    exact ⟨fun {_} _ => fun env s σ H ρ D re rs hp => (hp.nx (no env s)).elim, fun {_} _ => fun env s σ H ρ D re rs hp => (hp.nx (no env s)).elim⟩
  | if_ c a b iha ihb =>
    intro hc X N sc E G tk
    have hc' : (canRS a && canRS b) = true := hc
    simp only [Bool.and_eq_true] at hc'
    refine ⟨fun {st} h => ?_, fun {sts} h => (by cases sts <;> cases h)⟩
    intro env s σ H ρ D re rs hp
    cases st with
    | If x as bs p =>
      have h : (isE N c sc x && (isSs N sc a as && isSs N sc b bs)) = true := h
      simp only [Bool.and_eq_true] at h
      obtain ⟨v, s1, e1, hp1⟩ := PostX.bnd (r := evalE F c env s) hp
      obtain ⟨t, s2, e2, hp2⟩ := PostX.bnd (r := testV v s1) hp1
      obtain ⟨e3, e4⟩ := testV_eq e2
      rw [e4] at hp2
      refine of_ps (ps_if WT.pt WSs.pss WSs.pss) (st_use ((snd_all c).t G.toGood h.1) re rs e1 e3 fun H1 ρ1 x1 g1 rs1 re1 => ?_)
      cases t with
      | true => exact (iha hc'.1 G tk).2 h.2.1 env s1 σ H1 ρ1 D re1 rs1 (PostX.mono hp2 x1 g1)
      | false => exact (ihb hc'.2 G tk).2 h.2.2 env s1 σ H1 ρ1 D re1 rs1 (PostX.mono hp2 x1 g1)
    | _ => cases h
  | for_ kd is src a ih =>
    intro hc X N sc E G tk
    have hc : canRS a = true := hc
    refine ⟨fun {st} h => ?_, fun {sts} h => (by cases sts <;> cases h)⟩
    intro env s σ H ρ D re rs hp
    cases st with
    | For tg it as os p =>
      cases os with
      | cons _ _ => cases h
      | nil =>
        have h : (isTgt N sc is tg && (plainX it && (isSrc N kd src sc it && isSs N sc a as))) = true := h
        simp only [Bool.and_eq_true] at h
        obtain ⟨h1, h2, h3, h4⟩ := h
        obtain ⟨g, pg, gq⟩ := tgt_ok G h1
        obtain ⟨v, s1, e1, hp⟩ := PostX.bnd (r := evalE F src env s) hp
        cases e2 : srcItems kd v s1 with
        | none => rw [e2] at hp; exact hp.elim
        | some xs =>
          rw [e2] at hp
          refine of_ps (ps_for G.pass G.calm WI.pi pg WSs.pss (plain_fold h2)) ?_
          refine src_use G.toGood (snd_all src) h3 re rs e1 e2 fun J H1 ρ1 x1 g1 rs1 re1 jok => ?_
          have hp1 : PostX X.K ρ1 H1 (forLoop is (stays kd v xs) (fun env s => evalS F a env s) xs env s1) E := PostX.mono hp x1 g1
          clear hp
          refine ⟨fun j m σ Hc => m = xs.length - j ∧ j ≤ xs.length ∧ ∃ env st' ρ', Ex ρ1 ρ' ∧ Gr X.K H1 Hc ∧ RS X.K ρ' Hc st' ∧ RE X.K ρ' Hc env σ ∧ PostX X.K ρ' Hc (forLoop is (stays kd v xs) (fun env s => evalS F a env s) (xs.drop j) env st') E,
            ⟨xs.length, by simp, Nat.zero_le _, env, s1, ρ1, Ex.refl, Gr.refl, rs1, re1, hp1⟩, ?_⟩
          rintro j m σ Hc ⟨rfl, hj, env, st', ρ', x2, g2, rs2, re2, hp2⟩
          by_cases hlt : j < xs.length
          · obtain ⟨z, hz⟩ : ∃ z, xs[j]? = some z := ⟨_, List.getElem?_eq_getElem hlt⟩
            have hdr : xs.drop j = z :: xs.drop (j + 1) := by
              rw [List.drop_eq_getElem_cons hlt]
              rw [List.getElem?_eq_getElem hlt] at hz
              cases hz; rfl
            rw [hdr] at hp2
            unfold forLoop at hp2
            split at hp2
            · rename_i hst
              obtain ⟨j1, j2, _⟩ := jok ρ' Hc st' x2 g2 rs2 hst j
              refine .inr ⟨j1 hlt, fun σ Hc => ∃ env st' ρ', Ex ρ1 ρ' ∧ Gr X.K H1 Hc ∧ RS X.K ρ' Hc st' ∧ RE X.K ρ' Hc env σ ∧ PostX X.K ρ' Hc (forLoop is (stays kd v xs) (fun env s => evalS F a env s) (xs.drop (j + 1)) env st') E, fun σ' H' nx => ⟨xs.length - (j + 1), by omega, rfl, hlt, nx⟩, fun x H' yl => ?_⟩
              obtain ⟨eH, rvx⟩ := j2 x H' z hz yl
              subst eH
              cases eb : bindTo is z env with
              | none => rw [eb] at hp2; exact hp2.elim
              | some env1 =>
                rw [eb] at hp2
                refine gq z x env env1 σ _ ρ' _ eb rvx re2 fun σ' re3 => ?_
                rcases PostX.bndX (r := evalS F a env1 st') hp2 with hp3 | ⟨p, s6, e6, hp3⟩
                · exact (ih hc G tk).2 h4 env1 st' σ' H' ρ' _ re3 rs2 hp3
                · refine (sndS_all a).ss G h4 env1 st' σ' H' ρ' _ re3 rs2 ?_
                  rw [e6]
                  obtain ⟨f, env2⟩ := p
                  intro σ2 H2 ρ2 x3 g3 rs3 re4
                  cases f with
                  | next => exact ⟨env2, s6, ρ2, x2.trans x3, g2.trans g3, rs3, re4, PostX.mono hp3 x3 g3⟩
                  | cont => exact ⟨env2, s6, ρ2, x2.trans x3, g2.trans g3, rs3, re4, PostX.mono hp3 x3 g3⟩
                  | brk => exact hp3.elim
                  | ret v => exact hp3.elim
            · exact hp2.elim
          · have ej : j = xs.length := by omega
            subst ej
            rw [List.drop_length] at hp2
            unfold forLoop at hp2
            split at hp2 <;> exact hp2.elim
    | _ => cases h
  | raise0 c =>
    intro hc X N sc E G tk
    refine ⟨fun {st} h => ?_, fun {sts} h => (by cases sts <;> cases h)⟩
    intro env s σ H ρ D re rs hp
    unfold isS at h
    split at h
    · rename_i x p m jj p2 q pos
      simp only [Bool.and_eq_true, decide_eq_true_eq] at h
      obtain ⟨h1, h2⟩ := h
      subst h1
      have hp : PostX X.K ρ H (if x ∈ exc0 ∧ F.fuel % 2 = 1 then (Res.exc x .none s : Res (Flow × Env)) else .stuck) E := hp
      split at hp
      · rename_i hx
        have O := G.exc hx.2
        obtain ⟨m1, m2, m3, m4⟩ := O.mke x hx.1
        have hn := exc0_ndb hx.1
        refine of_ps (ps_raise G.calm tk (pmk_own PySem.F.excBase_ValueError m1 (O.gl x (.inr (.inr hx.1))) m2 (raises_own m3 m4) (G.glo h2) hn.1)) ?_
        refine hp _ none H ρ Ex.refl Gr.refl rs ⟨cA X.K x, O.ns x (.inr hx.1), rfl, ?_, .inr hx.1⟩
        have : excFs x .none = [] := by unfold excFs; rw [if_neg hn.2]
        rw [this]
        rfl
      · exact hp.elim
    · cases h
  | raise1 c e =>
    intro hc X N sc E G tk
    refine ⟨fun {st} h => ?_, fun {sts} h => (by cases sts <;> cases h)⟩
    intro env s σ H ρ D re rs hp
    unfold isS at h
    split at h
    · rename_i x p y q pos
      simp only [Bool.and_eq_true, decide_eq_true_eq] at h
      obtain ⟨h1, h0, h2, h3, h4⟩ := h
      subst h0
      subst h1
      have hp : PostX X.K ρ H (if ("Over" : Str) = "Over" ∧ F.fuel % 2 = 1 then ((evalE F e env s).bind fun v s1 => (Res.exc "Over" v s1 : Res (Flow × Env))) else .stuck) E := hp
      split at hp
      · rename_i hx
        have O := G.exc hx.2
        obtain ⟨fI, T⟩ := O.over
        obtain ⟨v, s1, e1, hp⟩ := PostX.bnd (r := evalE F e env s) hp
        refine of_ps (ps_raiseOver G.calm T G.room tk (pa_cons WE.pe pa_nil (plain_star h3)) (G.glo h2) (plain_star h3) rfl) ?_
        refine se_use ((snd_all e).e G.toGood h4) re rs e1 fun V H1 ρ1 x1 g1 rs1 re1 rv1 => ⟨V, rfl, fun d hd => ?_⟩
        have gn : Gr X.K H1 (upd H1 d (.xd [(("at" : Str), V)])) := Gr.new hd
        refine hp _ (some d) _ ρ1 x1 (g1.trans gn) (rs1.other hd) ⟨cA X.K "Over", O.ns "Over" (.inl rfl), rfl, ?_, .inl rfl⟩
        have : excFs "Over" v = [(("at" : Str), v)] := by unfold excFs; rw [if_pos rfl]
        rw [this]
        exact ⟨d, V, rfl, by rw [upd_same], RV.mono Ex.refl gn _ _ rv1⟩
      · exact hp.elim
    · cases h
end

section
variable {K : PySem.W.Frag} {ρ : List Addr} {H H' : Hp} {st : Store}
theorem KVs.cutTo {m : List Addr} : ∀ {xs : List (Sum Int Str × Val)} {vs us : List (Key × V)}, KVs K ρ H' xs us → KVs K (ρ ++ m) H xs vs → KVs K ρ H xs vs
  | _, _, _, .nil, .nil => .nil
  | _, _, _, .cons a b, .cons c d => .cons (RV.cutTo _ _ (RV.low _ _ a) c) (KVs.cutTo b d)
/-- the old part of a store behind a run -/
theorem merge_take : ∀ {n : Nat} {old st s2 : Store}, mergeS n old st = some s2 → s2 = st.take old.length ∧ old.length ≤ st.length
  | n, [], st, s2, h => by cases h; simp
  | n, c :: cs, [], s2, h => by cases h
  | n, c :: cs, d :: ds, s2, h => by
    unfold mergeS at h
    split at h
    · cases e : mergeS n cs ds with
      | none => rw [e] at h; cases h
      | some s3 =>
        rw [e] at h
        cases h
        obtain ⟨h1, h2⟩ := merge_take e
        subst h1
        exact ⟨by simp, by simpa using h2⟩
    · cases h
theorem merge_at : ∀ {n : Nat} {old st s2 : Store} {i : Nat} {c d : Cell}, mergeS n old st = some s2 → old[i]? = some c → st[i]? = some d → c = d ∨ d.lowC n = true
  | n, [], st, s2, i, c, d, h, e1, e2 => by simp at e1
  | n, _ :: _, [], s2, i, c, d, h, e1, e2 => by cases h
  | n, c0 :: cs, d0 :: ds, s2, i, c, d, h, e1, e2 => by
    unfold mergeS at h
    split at h
    · rename_i hc
      cases e : mergeS n cs ds with
      | none => rw [e] at h; cases h
      | some s3 =>
        cases i with
        | zero =>
          simp at e1 e2
          subst e1 e2
          exact hc
        | succ i => exact merge_at (i := i) e (by simpa using e1) (by simpa using e2)
    · cases h
/-- the old part stands over the old names -/
theorem RS.back {m : List Addr} {s1 s2 : Store} (r0 : RS K ρ H st) (r1 : RS K (ρ ++ m) H' s1) (h : mergeS st.length st s1 = some s2) : RS K ρ H' s2 := by
  obtain ⟨e, hl⟩ := merge_take h
  subst e
  have get : ∀ (n : Nat) (c : Cell), (s1.take st.length)[n]? = some c → s1[n]? = some c ∧ n < st.length := fun n c e => by
    have hn : n < (s1.take st.length).length := (List.getElem?_eq_some_iff.mp e).1
    have hn2 : n < st.length := by rw [List.length_take] at hn; omega
    rw [List.getElem?_take_of_lt hn2] at e
    exact ⟨e, hn2⟩
  have gr : ∀ (n : Nat) (a : Addr), ρ[n]? = some a → (ρ ++ m)[n]? = some a := fun n a e => Ex.get ⟨m, rfl⟩ e
  refine ⟨by rw [List.length_take, r0.len]; omega, fun n n' c d a e1 e2 m1 m2 e3 e4 => ?_, fun n c a e1 e2 => ?_⟩
  · exact r1.sep n n' c d a (get n c e1).1 (get n' d e2).1 m1 m2 (gr n a e3) (gr n' a e4)
  · obtain ⟨e3, hn⟩ := get n c e1
    have q := r1.cell n c a e3 (gr n a e2)
    have old : st[n]? = some st[n] := List.getElem?_eq_getElem hn
    have q0 := r0.cell n _ a old e2
    have low : (c = st[n]) ∨ c.lowC st.length = true := by
      rcases merge_at h old e3 with z | z
      · exact .inl z.symm
      · exact .inr z
    cases c with
    | lst xs =>
      obtain ⟨vs, c1, c2⟩ := q
      have hx : lowL ρ.length xs = true := by
        rcases low with z | z
        · rw [← z] at q0
          obtain ⟨ws, _, d2⟩ := q0
          exact RVs.low _ _ d2
        · rw [r0.len]; exact z
      exact ⟨vs, c1, RVs.cutTo _ _ hx c2⟩
    | ro xs =>
      obtain ⟨vs, c1, c2⟩ := q
      rcases low with z | z
      · rw [← z] at q0
        obtain ⟨ws, _, d2⟩ := q0
        exact ⟨vs, c1, RVs.cutTo _ _ (RVs.low _ _ d2) c2⟩
      · cases z
    | dict kvs =>
      obtain ⟨vs, c1, c2⟩ := q
      rcases low with z | z
      · rw [← z] at q0
        obtain ⟨ws, _, d2⟩ := q0
        exact ⟨vs, c1, KVs.cutTo d2 c2⟩
      · cases z
    | inst c fs =>
      obtain ⟨C, d, c1, c2, c3, c4⟩ := q
      rcases low with z | z
      · rw [← z] at q0
        obtain ⟨C0, d0, n1, n2, n3, n4⟩ := q0
        refine ⟨C, d, c1, c2, ?_, c4⟩
        unfold FsR at n3 c3 ⊢
        split at c3
        · exact c3
        · rename_i f v
          obtain ⟨dd, u, e1, e2, r⟩ := c3
          obtain ⟨dd0, u0, e10, e20, r0⟩ := n3
          exact ⟨dd, u, e1, e2, RV.cutTo _ _ (RV.low _ _ r0) r⟩
        · exact c3.elim
      · cases z
theorem gc_ok {ρ' : List Addr} {s1 : Store} {v : Val} {u : V} {Q : VK} (r0 : RS K ρ H st) (hx : Ex ρ ρ') (hg : Gr K H H') (r1 : RS K ρ' H' s1) (rv : RV K ρ' H' v u) (h : PostV K ρ H (gc st v s1) Q) : Q u H' := by
  unfold gc at h
  cases e : mergeS st.length st s1 with
  | none =>
    rw [e] at h
    exact h u H' ρ' hx hg r1 rv
  | some s2 =>
    rw [e] at h
    simp only at h
    obtain ⟨m, rfl⟩ := hx
    have rb : RS K ρ H' s2 := r0.back r1 e
    split at h
    · rename_i hb
      rw [← r0.len] at hb
      exact h u H' ρ Ex.refl hg rb (RV.cutTo _ _ hb rv)
    · split at h
      · rename_i _ r _
        split at h
        · rename_i xs er
          split at h
          · rename_i hr
            cases rv with
            | @ref _ a hna =>
              obtain ⟨vs, c1, c2⟩ := r1.at_ er hna
              have hb : lowL ρ.length xs = true := by rw [r0.len]; exact hr.2
              have c3 : RVs K ρ H' xs vs := RVs.cutTo _ _ hb c2
              have l2 : s2.length = st.length := by
                have := rb.len
                have := r0.len
                omega
              have in2 : ∀ (n : Nat) (c : Cell), s2[n]? = some c → s1[n]? = some c ∧ n < st.length := fun n c e1 => by
                obtain ⟨e2, hl⟩ := merge_take e
                have hn : n < s2.length := (List.getElem?_eq_some_iff.mp e1).1
                rw [e2] at e1
                rw [List.getElem?_take_of_lt (by omega)] at e1
                exact ⟨e1, by omega⟩
              have out : ∀ (n : Nat) (d : Cell) (b : Addr), (s2 ++ [Cell.lst xs])[n]? = some d → (ρ ++ [a])[n]? = some b → (s2[n]? = some d ∧ ρ[n]? = some b) ∨ (n = st.length ∧ d = .lst xs ∧ b = a) := fun n d b e1 e2 => by
                by_cases hn : n < st.length
                · rw [List.getElem?_append_left (by omega)] at e1
                  rw [List.getElem?_append_left (by rw [r0.len]; exact hn)] at e2
                  exact .inl ⟨e1, e2⟩
                · have hn2 : n < (s2 ++ [Cell.lst xs]).length := (List.getElem?_eq_some_iff.mp e1).1
                  have hn3 : n = st.length := by simp at hn2; omega
                  subst hn3
                  rw [← l2, List.getElem?_append_right (Nat.le_refl _)] at e1
                  rw [← r0.len, List.getElem?_append_right (Nat.le_refl _)] at e2
                  simp at e1 e2
                  exact .inr ⟨rfl, e1.symm, e2.symm⟩
              have new : ∀ (n : Nat) (d : Cell), s2[n]? = some d → mutB d = true → ρ[n]? = some a → False := fun n d e1 md e2 => by
                obtain ⟨e3, hn⟩ := in2 n d e1
                have := r1.sep n r d (.lst xs) a e3 er md rfl (Ex.get ⟨m, rfl⟩ e2) hna
                omega
              have rsn : RS K (ρ ++ [a]) H' (s2 ++ [Cell.lst xs]) := by
                refine ⟨by simp [rb.len], fun n n' c d b e1 e2 m1 m2 e3 e4 => ?_, fun n d b e1 e2 => ?_⟩
                · rcases out n c b e1 e3 with ⟨z1, z2⟩ | ⟨z1, z2, z3⟩
                  · rcases out n' d b e2 e4 with ⟨w1, w2⟩ | ⟨w1, w2, w3⟩
                    · exact rb.sep n n' c d b z1 w1 m1 m2 z2 w2
                    · subst w3; exact (new n c z1 m1 z2).elim
                  · rcases out n' d b e2 e4 with ⟨w1, w2⟩ | ⟨w1, w2, w3⟩
                    · subst z3; exact (new n' d w1 m2 w2).elim
                    · rw [z1, w1]
                · rcases out n d b e1 e2 with ⟨z1, z2⟩ | ⟨z1, z2, z3⟩
                  · exact (rb.cell n d b z1 z2).mono ⟨[a], rfl⟩ Gr.refl (.inl rfl) fun _ _ e => e
                  · subst z2 z3
                    exact ⟨vs, c1, RVs.mono ⟨[b], rfl⟩ Gr.refl _ _ c3⟩
              refine h (.ref a) H' (ρ ++ [a]) ⟨[a], rfl⟩ hg rsn (.ref ?_)
              rw [← r0.len, List.getElem?_append_right (Nat.le_refl _)]; simp
          · exact h u H' (ρ ++ m) ⟨m, rfl⟩ hg r1 rv
        · exact h u H' (ρ ++ m) ⟨m, rfl⟩ hg r1 rv
      · exact h u H' (ρ ++ m) ⟨m, rfl⟩ hg r1 rv
end

/-! ### the table of defs -/
structure DefOk (K : PySem.W.Frag) (mg : Str → Option Value) (f : Str) (d : Def) (a : Addr) (fd : FuncData) : Prop where
  ex : ∃ (qual : Str) (params : Arguments) (body : List Stmt) (scope : Scope), FunD K f qual params body scope [] [] a fd ∧ FnScope d.names (d.names.take d.params) scope ∧ isSs d.names scope d.body body = true
  mgf : mg f = some (.ref a)
  kp : PySem.W.keepIn K (.ref a) = true
  binds : Binds K fd (d.names.take d.params) []
  fit : d.params ≤ d.names.length
section
variable {P : Program} {w : World} {K : PySem.W.Frag} {mg : Str → Option Value} {base : Heap} {T : Tab} {gl : Str → Option Val} {W : Nat}
theorem gc_nx {old st : Store} {v : Val} : NX (gc old v st) := by
  unfold gc
  ((repeat' split) <;> first | exact nx_ok | exact nx_stuck | exact nx_need nx_ok | exact nx_need nx_stuck)
theorem fns_ok (hT : ∀ f d, T.lookup f = some d → ∃ a fd, DefOk K mg f d a fd) (hgl : ∀ x v, gl x = some v → ∃ (u : V) (w : Value), mg x = some w ∧ RelV u w ∧ ∀ ρ H, RV K ρ H v u) (hfree : ∀ x ∈ freeNames, mg x = none) (hex : W % 2 = 1 → ExOk K mg) :
    ∀ (n : Nat) (f : Str) (d : Def) (a : Addr) (fd : FuncData), T.lookup f = some d → DefOk K mg f d a fd → FnOk P w K mg base (L2.CX P w) n a fd (d.names.take d.params) (spOf K ⟨callN T gl W n, gl, W⟩ f) := by
  intro n
  induction n with
  | zero =>
    intro f d a fd e D
    have no : ∀ vs H Q E, ¬ spOf K ⟨callN T gl W 0, gl, W⟩ f vs H Q E := fun vs H Q E ⟨args, st, ρ, _, _, h⟩ => by
      rcases h with h | h <;> exact h.elim
    exact ⟨fun vs H Q E h => absurd h (no vs H Q E), fun A outer s H args us vs Q E _ _ _ _ h => absurd h (no vs H Q E)⟩
  | succ n ih =>
    intro f d a fd e D
    obtain ⟨qual, params, body, scope, hF, hS, hB⟩ := D.ex
    have run : ∀ args st, callN T gl W (n + 1) f args st = fin (canB T f) (runBody ⟨callN T gl W n, gl, W⟩ d args st) := fun args st => by
      show (match T.lookup f with | some d => fin (canB T f) (runBody ⟨callN T gl W n, gl, W⟩ d args st) | none => .stuck) = _
      rw [e]
    have can : canB T f = true → canRS d.body = true := fun h => by
      unfold canB at h
      rw [e] at h
      exact h
    have both : ∀ {args st ρ H Q E}, (PostV K ρ H (callN T gl W (n + 1) f args st) Q ∨ PostX K ρ H (callN T gl W (n + 1) f args st) E) → PostV K ρ H (runBody ⟨callN T gl W n, gl, W⟩ d args st) Q ∨ (PostX K ρ H (runBody ⟨callN T gl W n, gl, W⟩ d args st) E ∧ canRS d.body = true) := fun {args st ρ H Q E} h => by
      rw [run] at h
      cases q : runBody ⟨callN T gl W n, gl, W⟩ d args st with
      | ok v s1 =>
        rw [q] at h
        rcases h with h | h
        · exact .inl h
        · exact h.elim
      | exc c v s1 =>
        rw [q] at h
        unfold fin at h
        simp only at h
        split at h
        · rename_i hb
          rcases h with h | h
          · exact h.elim
          · exact .inr ⟨h, can hb⟩
        · rcases h with h | h <;> exact h.elim
      | stuck =>
        rw [q] at h
        rcases h with h | h <;> exact h.elim
    refine hF.ok (CX := L2.CX P w) hS (fun vs H Q E h => ?_) (fun cdv A outer s H vs Q E hr h => ?_)
    · obtain ⟨args, st, ρ, h1, h2, h3⟩ := h
      have hl : args.length = d.params := by
        rcases both h3 with h3 | ⟨h3, _⟩
        · unfold runBody at h3
          split at h3
          · assumption
          · exact h3.elim
        · unfold runBody at h3
          split at h3
          · assumption
          · exact h3.elim
      rw [List.length_take, ← h1.length, hl]
      have := D.fit
      omega
    · obtain ⟨args, st, ρ, h1, h2, h3⟩ := h
      have G : GoodS (cxOf (L2.CX P w) P w K mg base d.names qual scope a cdv A outer s H E) d.names scope ⟨callN T gl W n, gl, W⟩ n := by
        refine ⟨⟨rfl, rfl, hS.nd, rfl, hr, passes_of (K := fun e s'' => L2.CX P w outer H s E e s'') rfl, fun g hg => ?_, hex, hgl, hfree⟩, rfl, hS.kind, rfl, rfl, rfl⟩
        obtain ⟨args', st', hg⟩ := hg
        have : ∃ d', T.lookup g = some d' := by
          cases n with
          | zero => exact absurd rfl hg
          | succ n =>
            cases q : T.lookup g with
            | none =>
              exfalso
              apply hg
              show (match T.lookup g with | some d => fin (canB T g) (runBody ⟨callN T gl W n, gl, W⟩ d args' st') | none => .stuck) = _
              rw [q]
            | some d' => exact ⟨d', rfl⟩
        obtain ⟨d', hd'⟩ := this
        obtain ⟨a', fd', D'⟩ := hT g d' hd'
        exact ⟨a', fd', _, D'.mgf, D'.kp, D'.binds, ih g d' a' fd' hd' D'⟩
      refine ⟨WSs _ body, WSs.pss, ?_⟩
      rcases both h3 with h3 | ⟨h3, hcan⟩
      · unfold runBody at h3
        split at h3
        · rename_i hl
          refine (sndS_all d.body).ss G hB (args.map some ++ List.replicate (d.names.length - args.length) none) st (start d.names vs) H ρ _ (RE.start d.names h1) h2 ?_
          obtain ⟨p, s1, e1, h4⟩ := PostV.bndX h3
          rw [e1]
          obtain ⟨fl, env1⟩ := p
          intro σ' H' ρ' x1 g1 rs1 re1
          cases fl with
          | next => exact gc_ok h2 x1 g1 rs1 .none h4
          | ret v => exact fun V rv => gc_ok h2 x1 g1 rs1 rv h4
          | brk => exact h4.elim
          | cont => exact h4.elim
        · exact h3.elim
      · unfold runBody at h3
        split at h3
        · rename_i hl
          have tk : Takes (cxOf (L2.CX P w) P w K mg base d.names qual scope a cdv A outer s H E) (fun cls d _ H => E cls d H) := takes_of rfl rfl rfl rfl
          refine (ra_all d.body hcan G tk).2 hB (args.map some ++ List.replicate (d.names.length - args.length) none) st (start d.names vs) H ρ _ (RE.start d.names h1) h2 ?_
          rcases PostX.bndX h3 with h4 | ⟨p, s1, e1, h4⟩
          · exact h4
          · exfalso
            cases q : p.1 with
            | next => rw [q] at h4; exact h4.nx gc_nx
            | ret v => rw [q] at h4; exact h4.nx gc_nx
            | brk => rw [q] at h4; exact h4.elim
            | cont => rw [q] at h4; exact h4.elim
        · exact h3.elim
end

/-- every def of a table stands in the text -/
inductive AllD (K : PySem.W.Frag) (mg : Str → Option Value) : Tab → Prop
  | nil : AllD K mg []
  | cons {f : Str} {d : Def} {T : Tab} : (∃ a fd, DefOk K mg f d a fd) → AllD K mg T → AllD K mg ((f, d) :: T)
theorem AllD.at_ {K : PySem.W.Frag} {mg : Str → Option Value} : ∀ {T : Tab} {f : Str} {d : Def}, AllD K mg T → T.lookup f = some d → ∃ a fd, DefOk K mg f d a fd
  | _, f, d, .nil, e => by cases e
  | _, f, d, .cons (f := g) (d := d') (T := T) h t, e => by
    rw [List.lookup_cons] at e
    cases q : f == g with
    | true =>
      rw [q] at e
      cases e
      rw [beq_iff_eq.mp q]
      exact h
    | false =>
      rw [q] at e
      exact t.at_ e
/-- every constant of the module -/
inductive AllG (K : PySem.W.Frag) (mg : Str → Option Value) : List (Str × Val) → Prop
  | nil : AllG K mg []
  | cons {x : Str} {v : Val} {T : List (Str × Val)} : (∃ (u : V) (w : Value), mg x = some w ∧ RelV u w ∧ ∀ ρ H, RV K ρ H v u) → AllG K mg T → AllG K mg ((x, v) :: T)
theorem AllG.at_ {K : PySem.W.Frag} {mg : Str → Option Value} : ∀ {T : List (Str × Val)} {x : Str} {v : Val}, AllG K mg T → T.lookup x = some v → ∃ (u : V) (w : Value), mg x = some w ∧ RelV u w ∧ ∀ ρ H, RV K ρ H v u
  | _, f, d, .nil, e => by cases e
  | _, f, d, .cons (x := g) (T := T) h t, e => by
    rw [List.lookup_cons] at e
    cases q : f == g with
    | true =>
      rw [q] at e
      cases e
      rw [beq_iff_eq.mp q]
      exact h
    | false =>
      rw [q] at e
      exact t.at_ e

/-! ### the law -/
theorem law_sp {K : PySem.W.Frag} {F : Fns} {f : Str} {H : Hp} {a : Addr} {ns : List Int} (hO : Only H) (hS : SqL K H a (ns.map V.int)) (h : ∃ s', F.fn f [.ref 0] [.ro (ns.map Val.int)] = .ok (.bool true) s') :
    spOf K F f [.ref a] H (fun v _ => v = .bl true) fun _ _ _ => False := by
  obtain ⟨s', h⟩ := h
  refine ⟨[.ref 0], [.ro (ns.map Val.int)], [a], .cons (.ref rfl) .nil, ⟨rfl, fun n m c d b e1 e2 m1 m2 _ _ => ?_, fun n c b e1 e2 => ?_⟩, ?_⟩
  · cases n with
    | zero => cases e1; cases m1
    | succ n => simp at e1
  · cases n with
    | zero =>
      cases e1
      cases e2
      refine ⟨ns.map V.int, ?_, RVs.of_ints ns⟩
      rcases hS with (hS | ⟨o, hS⟩) | hS
      · rcases hO a with z | ⟨o, xs, z⟩
        · rw [z] at hS; cases hS
        · rw [z] at hS; cases hS
      · exact .inl ⟨o, hS⟩
      · exact .inr hS
    | succ n => simp at e1
  · left
    rw [h]
    intro V H' ρ' _ _ _ rv
    cases rv
    rfl

/-- a tuple of the top, of flat things -/
theorem glob_tup {K : PySem.W.Frag} {h : Heap} {mg : Str → Option Value} (X : K.In h) (G : h.Ns mainGlobals mg) {x : Str} {vs : List He.Dv} {xs : List Val} (c : (He.Fa.glo x).ok K = true) (t : He.tupB K x vs = true) (hv : ∀ ρ H, RVs K ρ H xs (vs.map (He.Dv.v K))) :
    ∃ (u : V) (w : Value), mg x = some w ∧ RelV u w ∧ ∀ ρ H, RV K ρ H (.tup xs) u :=
  ⟨.ref (He.ga K x), _, He.glo_ok X G c, rfl, fun ρ H => .tup (He.tupB_ok t H) (hv ρ H)⟩
theorem glob_int {K : PySem.W.Frag} {h : Heap} {mg : Str → Option Value} (X : K.In h) (G : h.Ns mainGlobals mg) {x : Str} {i : Int} (c : (He.Fa.int x i).ok K = true) :
    ∃ (u : V) (w : Value), mg x = some w ∧ RelV u w ∧ ∀ ρ H, RV K ρ H (.int i) u := by
  obtain ⟨t, e⟩ := He.int_ok X G c
  exact ⟨.int i, _, e, ⟨t, rfl⟩, fun ρ H => .int i⟩
/-- a def by the head's facts -/
theorem defOk_fd {K : PySem.W.Frag} {h : Heap} {mg : Str → Option Value} (X : K.In h) (G : h.Ns mainGlobals mg) {f : Str} {d : Def} {ps : List Str} {args : Arguments} {body : List Stmt} {scope : Scope} {fd : FuncData}
    (c : (He.Fa.glo f).ok K = true) (hF : FunD K f f args body scope [] [] (He.ga K f) fd) (hp : d.names.take d.params = ps) (hl : d.params ≤ d.names.length) (hS : FnScope d.names ps scope) (hB : isSs d.names scope d.body body = true)
    (hb : ∀ (kV doc pm : Value) (an : Option Addr) (cdv ct : Value) (us : List Value), us.length = ps.length → bindArgs (PySem.W.fnOf f f args body scope .none kV doc pm an cdv ct) ⟨us, []⟩ = pure (ps.zip us)) : DefOk K mg f d (He.ga K f) fd := by
  subst hp
  exact ⟨⟨f, args, body, scope, hF, hS, hB⟩, He.glo_ok X G c, hF.kp, hF.bindsN hb, hl⟩
theorem defOk_of {K : PySem.W.Frag} {h : Heap} {mg : Str → Option Value} (X : K.In h) (G : h.Ns mainGlobals mg) {f : Str} {d : Def} {ps : List Str} {args : Arguments} {body : List Stmt} {scope : Scope}
    (c : (He.Fa.glo f).ok K = true) (hd : ∃ fd, FunD K f f args body scope [] [] (He.ga K f) fd) (hp : d.names.take d.params = ps) (hl : d.params ≤ d.names.length) (hS : FnScope d.names ps scope) (hB : isSs d.names scope d.body body = true)
    (hb : ∀ (kV doc pm : Value) (an : Option Addr) (cdv ct : Value) (us : List Value), us.length = ps.length → bindArgs (PySem.W.fnOf f f args body scope .none kV doc pm an cdv ct) ⟨us, []⟩ = pure (ps.zip us)) : ∃ a fd, DefOk K mg f d a fd := by
  obtain ⟨fd, hF⟩ := hd
  subst hp
  exact ⟨_, fd, ⟨f, args, body, scope, hF, hS, hB⟩, He.glo_ok X G c, hF.kp, hF.bindsN hb, hl⟩
end Ev

set_option Elab.async false
set_option linter.all false
set_option maxRecDepth 100000
set_option maxHeartbeats 400000
/-! ## Running the evaluator on letters -/
namespace Ev
open PySem

/-- a block, a test, not yet run -/
noncomputable def runS (F : Fns) (a : CS) (env : Env) (s : Store) : Res (Flow × Env) := evalS F a env s
noncomputable def runT (F : Fns) (c : CE) (env : Env) (s : Store) : Res Bool := (evalE F c env s).bind fun x s1 => testV x s1
noncomputable def runC (F : Fns) (i : Nat) (cond elt : CE) (env : Env) (x : Val) (s : Store) : Res (Option Val) :=
  if isNil cond = true then (evalE F elt (env.set i (some x)) s).bind fun y s3 => .ok (some y) s3
  else (evalE F cond (env.set i (some x)) s).bind fun t s2 => (testV t s2).bind fun b s3 => if b = true then (evalE F elt (env.set i (some x)) s3).bind fun y s4 => .ok (some y) s4 else .ok none s3
section
variable {F : Fns} {env : Env} {st : Store}
@[simp] theorem ev_var {i : Nat} : evalE F (.var i) env st = match env[i]? with | some (some v) => .ok v st | _ => .stuck := rfl
@[simp] theorem ev_none : evalE F .none_ env st = .ok .none st := rfl
@[simp] theorem ev_bool {b : Bool} : evalE F (.bool_ b) env st = .ok (.bool b) st := rfl
@[simp] theorem ev_int {i : Int} : evalE F (.int_ i) env st = .ok (.int i) st := rfl
@[simp] theorem ev_str {s : Str} : evalE F (.str_ s) env st = .ok (.str s) st := rfl
@[simp] theorem ev_glob {x : Str} : evalE F (.glob x) env st = match F.glob x with | some v => .ok v st | none => .stuck := rfl
@[simp] theorem ev_nil : evalE F .nil env st = .ok (.tup []) st := rfl
@[simp] theorem ev_cons {a r : CE} : evalE F (.cons a r) env st = (evalE F a env st).bindX fun v s1 => (evalE F r env s1).bindX fun w s2 => match w with | .tup vs => .ok (.tup (v :: vs)) s2 | _ => .stuck := rfl
@[simp] theorem ev_tup {a : CE} : evalE F (.tup a) env st = (evalE F a env st).bind fun w s1 => match w with | .tup vs => need (vs.length ≤ sizeLine) (.ok (.tup vs) s1) | _ => .stuck := rfl
@[simp] theorem ev_lst {a : CE} : evalE F (.lst a) env st = (evalE F a env st).bind fun w s1 => match w with | .tup vs => need (vs.length ≤ sizeLine) (.ok (.ref s1.length) (s1 ++ [.lst vs])) | _ => .stuck := rfl
@[simp] theorem ev_bin {op : Bop} {a b : CE} : evalE F (.bin op a b) env st = (evalE F a env st).bind fun x s1 => (evalE F b env s1).bind fun y s2 => binop op x y s2 := rfl
@[simp] theorem ev_neg {a : CE} : evalE F (.neg a) env st = (evalE F a env st).bind fun x s1 => match x with | .int i => .ok (.int (-i)) s1 | _ => .stuck := rfl
@[simp] theorem ev_cmp {op : Cop} {a b : CE} : evalE F (.cmp op a b) env st = (evalE F a env st).bind fun x s1 => (evalE F b env s1).bind fun y s2 => cmpop op x y s2 := rfl
@[simp] theorem ev_chain {op op' : Cop} {a b c : CE} : evalE F (.chain op op' a b c) env st = (evalE F a env st).bind fun x s1 => (evalE F b env s1).bind fun y s2 => (cmpop op x y s2).bind fun r s3 => match r with
    | .bool d => if d = true then (evalE F c env s3).bind fun z s4 => cmpop op' y z s4 else .ok (.bool false) s3
    | _ => .stuck := rfl
@[simp] theorem ev_and1 {a : CE} : evalE F (.and1 a) env st = evalE F a env st := rfl
@[simp] theorem ev_and2 {a r : CE} : evalE F (.and2 a r) env st = (evalE F a env st).bind fun x s1 => match x with
    | .bool d => if d = true then evalE F r env s1 else .ok (.bool false) s1
    | _ => .stuck := rfl
@[simp] theorem ev_or1 {a : CE} : evalE F (.or1 a) env st = evalE F a env st := rfl
@[simp] theorem ev_or2 {a r : CE} : evalE F (.or2 a r) env st = (evalE F a env st).bind fun x s1 => match x with
    | .bool d => if d = true then .ok (.bool true) s1 else evalE F r env s1
    | _ => .stuck := rfl
@[simp] theorem ev_not {a : CE} : evalE F (.not_ a) env st = (evalE F a env st).bind fun x s1 => (testV x s1).bind fun b s2 => .ok (.bool (!b)) s2 := rfl
@[simp] theorem ev_ifx {c a b : CE} : evalE F (.ifx c a b) env st = (evalE F c env st).bind fun x s1 => (testV x s1).bind fun t s2 => if t = true then evalE F a env s2 else evalE F b env s2 := rfl
@[simp] theorem ev_ix {a i : CE} : evalE F (.ix a i) env st = (evalE F a env st).bind fun x s1 => (evalE F i env s1).bind fun y s2 => ixop x y s2 := rfl
@[simp] theorem ev_slice {a lo hi : CE} : evalE F (.slice a lo hi) env st = (evalE F a env st).bind fun x s1 =>
    (if isNil lo = true then Res.ok none s1 else (evalE F lo env s1).bind part).bind fun l s2 =>
    (if isNil hi = true then Res.ok none s2 else (evalE F hi env s2).bind part).bind fun h s3 => sliceop x l h s3 := rfl
@[simp] theorem ev_rev {a : CE} : evalE F (.rev a) env st = (evalE F a env st).bind fun x s1 => revop x s1 := rfl
@[simp] theorem rv_tup {xs : List Val} {st : Store} : revop (.tup xs) st = .ok (.tup xs.reverse) st := rfl
@[simp] theorem ev_call {f : Str} {a : CE} : evalE F (.call f a) env st = callX F f (evalE F a env st) := rfl
@[simp] theorem ev_bi {b : Bi} {a : CE} : evalE F (.bi b a) env st = (evalE F a env st).bind fun w s1 => match w with | .tup vs => bifn b vs s1 | _ => .stuck := rfl
@[simp] theorem ev_isi {t : Ty} {a : CE} : evalE F (.isi t a) env st = (evalE F a env st).bind fun x s1 => match isInst t s1 x with | some b => .ok (.bool b) s1 | none => .stuck := rfl
@[simp] theorem ev_meth {m : Mt} {o a : CE} : evalE F (.meth m o a) env st = (evalE F o env st).bind fun x s1 => need (mtOk m x s1 = true) <| (evalE F a env s1).bind fun w s2 => match w with | .tup vs => metop m x vs s2 | _ => .stuck := rfl
@[simp] theorem ev_comp {k : Src} {i : Nat} {src cond elt : CE} : evalE F (.comp k i src cond elt) env st = (evalE F src env st).bind fun v s1 => match srcItems k v s1 with
    | some xs => compLoop (runC F i cond elt env) (stays k v xs) s1.length xs (s1 ++ [.lst []])
    | none => .stuck := rfl
@[simp] theorem ev_kv {k v r : CE} : evalE F (.kv k v r) env st = (evalE F k env st).bind fun x s1 => (evalE F v env s1).bind fun y s2 => (evalE F r env s2).bind fun w s3 => match w with | .tup vs => .ok (.tup (x :: y :: vs)) s3 | _ => .stuck := rfl
@[simp] theorem ev_dict {ps : CE} : evalE F (.dict ps) env st = (evalE F ps env (st ++ [.dict []])).bind fun w s1 => match w with
    | .tup vs => (match s1[st.length]?, toPairs vs with
      | some (.dict []), some kvs => need (kvs.length ≤ 15) (.ok (.ref st.length) (s1.set st.length (.dict (mergeKV [] kvs))))
      | _, _ => .stuck)
    | _ => .stuck := rfl
/-! statements -/
@[simp] theorem es_skip : evalS F .skip env st = .ok (.next, env) st := rfl
@[simp] theorem es_seq {s r : CS} : evalS F (.seq s r) env st = (evalS F s env st).bindX fun p s1 => match p.1 with
    | .next => evalS F r p.2 s1
    | f => .ok (f, p.2) s1 := rfl
@[simp] theorem es_expr {e : CE} : evalS F (.expr e) env st = (evalE F e env st).bindX fun _ s1 => .ok (.next, env) s1 := rfl
@[simp] theorem es_ret {e : CE} : evalS F (.ret e) env st = (evalE F e env st).bindX fun v s1 => .ok (.ret v, env) s1 := rfl
@[simp] theorem es_retN : evalS F .retN env st = .ok (.ret .none, env) st := rfl
@[simp] theorem es_pass : evalS F .pass env st = .ok (.next, env) st := rfl
@[simp] theorem es_brk : evalS F .brk env st = .ok (.brk, env) st := rfl
@[simp] theorem es_cont : evalS F .cont env st = .ok (.cont, env) st := rfl
@[simp] theorem es_set {i : Nat} {e : CE} : evalS F (.set i e) env st = (evalE F e env st).bindX fun v s1 => .ok (.next, env.set i (some v)) s1 := rfl
@[simp] theorem es_tset {is : List Nat} {e : CE} : evalS F (.tset is e) env st = (evalE F e env st).bind fun v s1 => match v with
    | .tup vs => (match setAll is vs env with | some env1 => .ok (.next, env1) s1 | none => .stuck)
    | _ => .stuck := rfl
@[simp] theorem es_tpar {i j : Nat} {e : CE} : evalS F (.tpar i j e) env st = (evalE F e env st).bind fun w s1 => match w with
    | .tup [x, y] => .ok (.next, (env.set i (some x)).set j (some y)) s1
    | _ => .stuck := rfl
@[simp] theorem es_sub {o i e : CE} : evalS F (.sub o i e) env st = (evalE F e env st).bind fun v s1 => (evalE F o env s1).bind fun x s2 => (evalE F i env s2).bind fun y s3 => (subStore x y v s3).bind fun _ s4 => .ok (.next, env) s4 := rfl
@[simp] theorem es_if {c : CE} {a b : CS} : evalS F (.if_ c a b) env st = (evalE F c env st).bind fun x s1 => (testV x s1).bind fun t s2 => if t = true then evalS F a env s2 else evalS F b env s2 := rfl
@[simp] theorem es_while {c : CE} {a : CS} : evalS F (.while_ c a) env st = whileLoop (runT F c) (runS F a) F.fuel env st := rfl
@[simp] theorem es_for {k : Src} {is : List Nat} {src : CE} {a : CS} : evalS F (.for_ k is src a) env st = (evalE F src env st).bind fun v s1 => match srcItems k v s1 with
    | some xs => forLoop is (stays k v xs) (runS F a) xs env s1
    | none => .stuck := rfl
@[simp] theorem es_never : evalS F .never env st = .stuck := rfl
theorem es_raise0 {c : Str} (h : c ∈ exc0) (hx : F.fuel % 2 = 1) : evalS F (.raise0 c) env st = .exc c .none st := if_pos ⟨h, hx⟩
theorem es_raise1 {e : CE} (hx : F.fuel % 2 = 1) : evalS F (.raise1 "Over" e) env st = (evalE F e env st).bind fun v s1 => .exc "Over" v s1 := if_pos ⟨rfl, hx⟩
theorem es_try {i : Nat} {e : CE} {n j : Nat} (hx : F.fuel % 2 = 1) : evalS F (.tryc i e "ScoreError" n j) env st = (match evalE F e env st with
    | .ok v s1 => .ok (.next, env.set i (some v)) s1
    | .exc c v s1 => .ok (.next, (env.set j (some (.ref s1.length))).set n none) (s1 ++ [.inst c (excFs c v)])
    | .stuck => .stuck) := if_pos ⟨rfl, hx⟩
theorem ev_isx {c : Str} {a : CE} (hx : F.fuel % 2 = 1) : evalE F (.isx c a) env st = (evalE F a env st).bind fun x s1 => match isExc c s1 x with | some b => .ok (.bool b) s1 | none => .stuck := if_pos hx
theorem ev_fld {f : Str} {a : CE} (hx : F.fuel % 2 = 1) : evalE F (.fld f a) env st = (evalE F a env st).bind fun x s1 => match fldAt f s1 x with | some v => .ok v s1 | none => .stuck := if_pos hx
end

/-! ### operations on values -/
section
variable {st : Store}
@[simp] theorem tv_bool {b : Bool} : testV (.bool b) st = .ok b st := rfl
@[simp] theorem tv_none : testV .none st = .ok false st := rfl
@[simp] theorem tv_int {i : Int} : testV (.int i) st = .ok (i != 0) st := rfl
@[simp] theorem tv_tup {xs : List Val} : testV (.tup xs) st = .ok (!xs.isEmpty) st := rfl
@[simp] theorem b_add {i j : Int} : binop .add (.int i) (.int j) st = .ok (.int (i + j)) st := rfl
@[simp] theorem b_sub {i j : Int} : binop .sub (.int i) (.int j) st = .ok (.int (i - j)) st := rfl
@[simp] theorem b_addT {xs ys : List Val} : binop .add (.tup xs) (.tup ys) st = need (xs.length + ys.length ≤ sizeLine) (.ok (.tup (xs ++ ys)) st) := rfl
@[simp] theorem b_addS {x y : Str} : binop .add (.str x) (.str y) st = need (x.length + y.length ≤ sizeLine) (.ok (.str (x ++ y)) st) := rfl
theorem b_mul {i j : Int} (h : (-(2 ^ 64) < i ∧ i < 2 ^ 64) ∨ (-(2 ^ 64) < j ∧ j < 2 ^ 64)) : binop .mul (.int i) (.int j) st = .ok (.int (i * j)) st := if_pos h
theorem b_fdiv {i j : Int} (h : 0 < j) (h2 : j < 1073741824) : binop .fdiv (.int i) (.int j) st = .ok (.int (i / j)) st := if_pos ⟨h, h2⟩
theorem b_mod {i j : Int} (h : 0 < j) : binop .mod (.int i) (.int j) st = .ok (.int (i % j)) st := if_pos h
theorem b_pow {i j : Int} (h : 0 ≤ j ∧ j ≤ 1000000 ∧ i.natAbs < 2 ^ 64) : binop .pow (.int i) (.int j) st = .ok (.int (i ^ j.toNat)) st := if_pos h
theorem b_addL {n m : Nat} {xs ys : List Val} (h1 : st[n]? = some (.lst xs)) (h2 : st[m]? = some (.lst ys)) (h : xs.length + ys.length ≤ sizeLine) : binop .add (.ref n) (.ref m) st = Res.ok (Val.ref st.length) (st ++ [.lst (xs ++ ys)]) := by
  show (match st[n]?, st[m]? with
    | some (.lst xs), some (.lst ys) => need (xs.length + ys.length ≤ sizeLine) (Res.ok (Val.ref st.length) (st ++ [Cell.lst (xs ++ ys)]))
    | _, _ => Res.stuck) = _
  rw [h1, h2]; exact need_pos h
@[simp] theorem c_eqI {i j : Int} : cmpop .eq (.int i) (.int j) st = .ok (.bool (decide (i = j))) st := rfl
@[simp] theorem c_neI {i j : Int} : cmpop .ne (.int i) (.int j) st = .ok (.bool (!decide (i = j))) st := rfl
@[simp] theorem c_eqS {i j : Str} : cmpop .eq (.str i) (.str j) st = .ok (.bool (decide (i = j))) st := rfl
@[simp] theorem c_neS {i j : Str} : cmpop .ne (.str i) (.str j) st = .ok (.bool (!decide (i = j))) st := rfl
@[simp] theorem c_eqNI {j : Int} : cmpop .eq .none (.int j) st = .ok (.bool false) st := rfl
@[simp] theorem c_eqIN {j : Int} : cmpop .eq (.int j) .none st = .ok (.bool false) st := rfl
@[simp] theorem c_neNI {j : Int} : cmpop .ne .none (.int j) st = .ok (.bool true) st := rfl
@[simp] theorem c_neIN {j : Int} : cmpop .ne (.int j) .none st = .ok (.bool true) st := rfl
@[simp] theorem c_neNN : cmpop .ne .none .none st = .ok (.bool false) st := rfl
@[simp] theorem c_eqNN : cmpop .eq .none .none st = .ok (.bool true) st := rfl
@[simp] theorem c_neB {a b : Bool} : cmpop .ne (.bool a) (.bool b) st = .ok (.bool (!decide (a = b))) st := rfl
@[simp] theorem c_eqB {a b : Bool} : cmpop .eq (.bool a) (.bool b) st = .ok (.bool (decide (a = b))) st := rfl
@[simp] theorem c_lt {i j : Int} : cmpop .lt (.int i) (.int j) st = .ok (.bool (decide (i < j))) st := rfl
@[simp] theorem c_le {i j : Int} : cmpop .le (.int i) (.int j) st = .ok (.bool (decide (i ≤ j))) st := rfl
@[simp] theorem c_gt {i j : Int} : cmpop .gt (.int i) (.int j) st = .ok (.bool (decide (j < i))) st := rfl
@[simp] theorem c_ge {i j : Int} : cmpop .ge (.int i) (.int j) st = .ok (.bool (decide (j ≤ i))) st := rfl
@[simp] theorem c_isN : cmpop .is_ .none .none st = .ok (.bool true) st := rfl
@[simp] theorem c_isI {i : Int} : cmpop .is_ (.int i) .none st = .ok (.bool false) st := rfl
@[simp] theorem c_isT {i : List Val} : cmpop .is_ (.tup i) .none st = .ok (.bool false) st := rfl
@[simp] theorem c_inN : cmpop .isnot .none .none st = .ok (.bool false) st := rfl
@[simp] theorem c_inI {i : Int} : cmpop .isnot (.int i) .none st = .ok (.bool true) st := rfl
@[simp] theorem c_inT {i : List Val} : cmpop .isnot (.tup i) .none st = .ok (.bool true) st := rfl
@[simp] theorem i_none {t : Ty} : isInst t st .none = some false := rfl
@[simp] theorem i_bool {t : Ty} {b : Bool} : isInst t st (.bool b) = some (decide (t = .int) || decide (t = .bool)) := rfl
@[simp] theorem i_int {t : Ty} {b : Int} : isInst t st (.int b) = some (decide (t = .int)) := rfl
@[simp] theorem i_str {t : Ty} {b : Str} : isInst t st (.str b) = some (decide (t = .str)) := rfl
@[simp] theorem i_tup {t : Ty} {b : List Val} : isInst t st (.tup b) = some (decide (t = .tuple)) := rfl
theorem i_lst {t : Ty} {n : Nat} {xs : List Val} (h : st[n]? = some (.lst xs)) : isInst t st (.ref n) = some (decide (t = .list)) := by
  show (match st[n]? with | some (.lst _) => some (decide (t = Ty.list)) | _ => none) = _
  rw [h]
/-! items -/
@[simp] theorem at_0 {α : Type} {a : α} {r : List α} : L2.atI (a :: r) 0 = some a := by
  unfold L2.atI L2.ixN
  rw [if_pos (by decide), if_pos (by simp)]; rfl
theorem at_nat {α : Type} {xs : List α} {k : Nat} {v : α} (h : xs[k]? = some v) : L2.atI xs (k : Int) = some v := by
  have hk := (List.getElem?_eq_some_iff.mp h).1
  unfold L2.atI L2.ixN
  rw [if_pos (by omega), if_pos (by omega)]
  exact h
theorem at_last {α : Type} {xs : List α} {v : α} (h : xs.getLast? = some v) : L2.atI xs (-1) = some v := by
  have hne : xs ≠ [] := by intro e; subst e; simp at h
  have hl : 0 < xs.length := List.length_pos_iff.mpr hne
  unfold L2.atI L2.ixN
  rw [if_neg (by decide), if_pos (by omega)]
  rw [List.getLast?_eq_getElem?] at h
  show xs[((-1 : Int) + xs.length).toNat]? = some v
  have : ((-1 : Int) + xs.length).toNat = xs.length - 1 := by omega
  rw [this]; exact h
@[simp] theorem at_1 {α : Type} {a b : α} {r : List α} : L2.atI (a :: b :: r) 1 = some b := at_nat (k := 1) rfl
@[simp] theorem at_2 {α : Type} {a b c : α} {r : List α} : L2.atI (a :: b :: c :: r) 2 = some c := at_nat (k := 2) rfl
@[simp] theorem at_3 {α : Type} {a b c d : α} {r : List α} : L2.atI (a :: b :: c :: d :: r) 3 = some d := at_nat (k := 3) rfl
@[simp] theorem at_4 {α : Type} {a b c d e : α} {r : List α} : L2.atI (a :: b :: c :: d :: e :: r) 4 = some e := at_nat (k := 4) rfl
@[simp] theorem at_5 {α : Type} {a b c d e f : α} {r : List α} : L2.atI (a :: b :: c :: d :: e :: f :: r) 5 = some f := at_nat (k := 5) rfl
@[simp] theorem at_6 {α : Type} {a b c d e f g : α} {r : List α} : L2.atI (a :: b :: c :: d :: e :: f :: g :: r) 6 = some g := at_nat (k := 6) rfl
@[simp] theorem at_m1 {α : Type} {a : α} : L2.atI [a] (-1) = some a := at_last rfl
@[simp] theorem at_m2 {α : Type} {a b : α} : L2.atI [a, b] (-1) = some b := at_last rfl
@[simp] theorem at_m3 {α : Type} {a b c : α} : L2.atI [a, b, c] (-1) = some c := at_last rfl
@[simp] theorem at_m5 {α : Type} {a b c d e : α} : L2.atI [a, b, c, d, e] (-1) = some e := at_last rfl
@[simp] theorem at_m7 {α : Type} {a b c d e f g : α} : L2.atI [a, b, c, d, e, f, g] (-1) = some g := at_last rfl
@[simp] theorem ix_tup {xs : List Val} {k : Int} : ixop (.tup xs) (.int k) st = match L2.atI xs k with | some v => .ok v st | none => .stuck := rfl
theorem ix_lst {n : Nat} {xs : List Val} {k : Int} (h : listAt st n = some xs) : ixop (.ref n) (.int k) st = match L2.atI xs k with | some v => .ok v st | none => .stuck := by
  unfold listAt at h
  show (match (st[n]?).bind fun c => ixCell c (Val.int k) with | some v => Res.ok v st | none => Res.stuck) = _
  split at h
  · rename_i e; cases h; rw [e]; rfl
  · rename_i e; cases h; rw [e]; rfl
  · cases h
theorem listAt_lst {n : Nat} {xs : List Val} (h : st[n]? = some (.lst xs)) : listAt st n = some xs := by unfold listAt; rw [h]
theorem listAt_ro {n : Nat} {xs : List Val} (h : st[n]? = some (.ro xs)) : listAt st n = some xs := by unfold listAt; rw [h]
@[simp] theorem l_tup {xs : List Val} : bifn .len [.tup xs] st = .ok (.int xs.length) st := rfl
theorem l_ref {n : Nat} {xs : List Val} (h : listAt st n = some xs) : bifn .len [.ref n] st = .ok (.int xs.length) st := by
  show (match listAt st n with | some xs => Res.ok (Val.int xs.length) st | none => Res.stuck) = _
  rw [h]
@[simp] theorem bi_abs {i : Int} : bifn .abs [.int i] st = .ok (.int (iabs i)) st := rfl
@[simp] theorem bi_max {i j : Int} : bifn .max [.int i, .int j] st = .ok (.int (imax i j)) st := rfl
@[simp] theorem bi_min {i j : Int} : bifn .min [.int i, .int j] st = .ok (.int (imin i j)) st := rfl
@[simp] theorem bi_int {i : Int} : bifn .int [.int i] st = .ok (.int i) st := rfl
@[simp] theorem bi_intB {b : Bool} : bifn .int [.bool b] st = .ok (.int (if b then 1 else 0)) st := rfl
@[simp] theorem bi_tupT {xs : List Val} : bifn .tuple [.tup xs] st = .ok (.tup xs) st := rfl
@[simp] theorem bi_lstT {xs : List Val} : bifn .list [.tup xs] st = .ok (.ref st.length) (st ++ [.lst xs]) := rfl
theorem bi_tupL {n : Nat} {xs : List Val} (h : listAt st n = some xs) : bifn .tuple [.ref n] st = .ok (.tup xs) st := by
  show (match listAt st n with | some xs => Res.ok (Val.tup xs) st | none => Res.stuck) = _
  rw [h]
theorem bi_sum {n : Nat} {xs : List Val} {ns : List Int} (h : listAt st n = some xs) (h2 : allInts xs = some ns) : bifn .sum [.ref n] st = .ok (.int ns.sum) st := by
  show (match (listAt st n).bind allInts with | some ns => Res.ok (Val.int ns.sum) st | none => Res.stuck) = _
  rw [h]
  show (match allInts xs with | some ns => Res.ok (Val.int ns.sum) st | none => Res.stuck) = _
  rw [h2]
theorem bi_all {n : Nat} {xs : List Val} {ns : List Bool} (h : listAt st n = some xs) (h2 : allBools xs = some ns) : bifn .all [.ref n] st = .ok (.bool (ns.all id)) st := by
  show (match (listAt st n).bind allBools with | some ns => Res.ok (Val.bool (ns.all id)) st | none => Res.stuck) = _
  rw [h]
  show (match allBools xs with | some ns => Res.ok (Val.bool (ns.all id)) st | none => Res.stuck) = _
  rw [h2]
@[simp] theorem allInts_map {α : Type} {f : α → Int} : ∀ xs : List α, allInts (xs.map fun x => Val.int (f x)) = some (xs.map f)
  | [] => rfl
  | x :: xs => by
    show (allInts (xs.map fun x => Val.int (f x))).map (f x :: ·) = _
    rw [allInts_map xs]; rfl
@[simp] theorem allBools_map {α : Type} {f : α → Bool} : ∀ xs : List α, allBools (xs.map fun x => Val.bool (f x)) = some (xs.map f)
  | [] => rfl
  | x :: xs => by
    show (allBools (xs.map fun x => Val.bool (f x))).map (f x :: ·) = _
    rw [allBools_map xs]; rfl
theorem m_append {n : Nat} {xs : List Val} {y : Val} (h : st[n]? = some (.lst xs)) (hl : xs.length < sizeLine) : metop .append (.ref n) [y] st = .ok .none (st.set n (.lst (xs ++ [y]))) := by
  show (match st[n]? with
    | some (.lst xs) => need (xs.length < sizeLine) (Res.ok Val.none (st.set n (Cell.lst (xs ++ [y]))))
    | _ => Res.stuck) = _
  rw [h]; exact need_pos hl
theorem m_count {n : Nat} {xs : List Val} {ns : List Int} {k : Int} (h : listAt st n = some xs) (h2 : allInts xs = some ns) : metop .count (.ref n) [.int k] st = .ok (.int (ns.count k : Nat)) st := by
  show (match (listAt st n).bind allInts with | some ns => Res.ok (Val.int (ns.count k : Nat)) st | none => Res.stuck) = _
  rw [h]
  show (match allInts xs with | some ns => Res.ok (Val.int (ns.count k : Nat)) st | none => Res.stuck) = _
  rw [h2]
theorem mk_list {m : Mt} {n : Nat} {xs : List Val} (h : listAt st n = some xs) (hm : m ≠ .get) : mtOk m (.ref n) st = true := by
  cases m with
  | get => exact absurd rfl hm
  | _ => show (listAt st n).isSome = true; rw [h]; rfl
theorem sl_list {n : Nat} {xs : List Val} {l h : Option Int} (e : listAt st n = some xs) : sliceop (.ref n) l h st = .ok (.ref st.length) (st ++ [.lst (cut xs l h)]) := by
  show (match listAt st n with | some xs => Res.ok (Val.ref st.length) (st ++ [Cell.lst (cut xs l h)]) | none => Res.stuck) = _
  rw [e]
@[simp] theorem sl_tup {xs : List Val} {l h : Option Int} : sliceop (.tup xs) l h st = .ok (.tup (cut xs l h)) st := rfl
@[simp] theorem part_int {i : Int} : part (.int i) st = .ok (some i) st := rfl
theorem need_of {α : Type} {p : Prop} [Decidable p] {r : Res α} (h : p) : need p r = r := if_pos h
/-! a test that is open -/
@[simp] theorem ite_bind {α β : Type} {c : Prop} [Decidable c] {x y : Res α} {f : α → Store → Res β} : (if c then x else y).bind f = if c then x.bind f else y.bind f := by split <;> rfl
@[simp] theorem ite_bindX {α β : Type} {c : Prop} [Decidable c] {x y : Res α} {f : α → Store → Res β} : (if c then x else y).bindX f = if c then x.bindX f else y.bindX f := by split <;> rfl
@[simp] theorem ite_fin {c : Prop} [Decidable c] {b : Bool} {x y : Res Val} : fin b (if c then x else y) = if c then fin b x else fin b y := by split <;> rfl
end

/-! ### letting go -/
section
theorem mergeS_app (n : Nat) : ∀ (st g : Store), mergeS n st (st ++ g) = some st
  | [], g => by cases g <;> rfl
  | c :: cs, g => by
    show mergeS n (c :: cs) (c :: (cs ++ g)) = _
    unfold mergeS
    rw [if_pos (.inl rfl), mergeS_app n cs g]; rfl
theorem mergeS_self (n : Nat) (st : Store) : mergeS n st st = some st := by
  have := mergeS_app n st []
  rwa [List.append_nil] at this
theorem gc_self {st : Store} {v : Val} (h : v.lowB st.length = true) : gc st v st = .ok v st := by
  unfold gc
  rw [mergeS_self]
  simp only
  rw [if_pos h]
theorem gc_app {st g : Store} {v : Val} (h : v.lowB st.length = true) : gc st v (st ++ g) = .ok v st := by
  unfold gc
  rw [mergeS_app]
  simp only
  rw [if_pos h]
/-- the one new list that comes back -/
theorem gc_new {st g : Store} {xs : List Val} {r : Nat} (hr : st.length ≤ r) (e : (st ++ g)[r]? = some (.lst xs)) (h : lowL st.length xs = true) : gc st (.ref r) (st ++ g) = .ok (.ref st.length) (st ++ [.lst xs]) := by
  unfold gc
  rw [mergeS_app]
  simp only
  rw [if_neg (by simp [Val.lowB]; exact hr), e]
  simp only
  rw [if_pos ⟨hr, h⟩]
@[simp] theorem fin_gc {old st : Store} {v : Val} {b : Bool} : fin b (gc old v st) = gc old v st := by
  cases e : gc old v st with
  | exc c w s => exact absurd e (gc_nx c w s)
  | _ => rfl
@[simp] theorem low_none {n : Nat} : Val.none.lowB n = true := rfl
@[simp] theorem low_bool {n : Nat} {b : Bool} : (Val.bool b).lowB n = true := rfl
@[simp] theorem low_int {n : Nat} {b : Int} : (Val.int b).lowB n = true := rfl
@[simp] theorem low_str {n : Nat} {b : Str} : (Val.str b).lowB n = true := rfl
@[simp] theorem low_tup {n : Nat} {xs : List Val} : (Val.tup xs).lowB n = lowL n xs := rfl
@[simp] theorem low_ref {n m : Nat} : (Val.ref m).lowB n = decide (m < n) := rfl
@[simp] theorem lowL_nil {n : Nat} : lowL n [] = true := rfl
@[simp] theorem lowL_cons {n : Nat} {x : Val} {xs : List Val} : lowL n (x :: xs) = (x.lowB n && lowL n xs) := rfl
@[simp] theorem gc_none {st : Store} : gc st .none st = .ok .none st := gc_self rfl
@[simp] theorem gc_bool {st : Store} {b : Bool} : gc st (.bool b) st = .ok (.bool b) st := gc_self rfl
@[simp] theorem gc_int {st : Store} {b : Int} : gc st (.int b) st = .ok (.int b) st := gc_self rfl
@[simp] theorem gc_str {st : Store} {b : Str} : gc st (.str b) st = .ok (.str b) st := gc_self rfl
@[simp] theorem gc_noneA {st g : Store} : gc st .none (st ++ g) = .ok .none st := gc_app rfl
@[simp] theorem gc_boolA {st g : Store} {b : Bool} : gc st (.bool b) (st ++ g) = .ok (.bool b) st := gc_app rfl
@[simp] theorem gc_intA {st g : Store} {b : Int} : gc st (.int b) (st ++ g) = .ok (.int b) st := gc_app rfl
@[simp] theorem gc_strA {st g : Store} {b : Str} : gc st (.str b) (st ++ g) = .ok (.str b) st := gc_app rfl
theorem lowL_app {n : Nat} : ∀ {xs ys : List Val}, lowL n (xs ++ ys) = (lowL n xs && lowL n ys)
  | [], ys => by simp
  | x :: xs, ys => by rw [List.cons_append, lowL_cons, lowL_app, lowL_cons, Bool.and_assoc]
theorem lowL_all {n : Nat} : ∀ {xs : List Val}, lowL n xs = true ↔ ∀ x ∈ xs, x.lowB n = true
  | [] => by simp
  | x :: xs => by rw [lowL_cons, Bool.and_eq_true, lowL_all]; simp
theorem callN_succ {T : Tab} {gl : Str → Option Val} {W n : Nat} {f : Str} {d : Def} {args : List Val} {st : Store} (h : T.lookup f = some d) : callN T gl W (n + 1) f args st = fin (canB T f) (runBody ⟨callN T gl W n, gl, W⟩ d args st) := by
  show (match T.lookup f with | some d => fin (canB T f) (runBody ⟨callN T gl W n, gl, W⟩ d args st) | none => Res.stuck) = _
  rw [h]
/-- a def's run: its body from its parameters on, then what is no longer reached is let go -/
theorem call_of {T : Tab} {gl : Str → Option Val} {W n : Nat} {f : Str} {d : Def} {args : List Val} {st : Store} {v : Val} {s2 : Store} {r : Res Val} (h : T.lookup f = some d) (hn : 1 ≤ n) (hl : args.length = d.params)
    (hb : ∃ env1 s1, evalS ⟨callN T gl W (n - 1), gl, W⟩ d.body (args.map some ++ List.replicate (d.names.length - args.length) none) st = .ok (.ret v, env1) s1 ∧ gc st v s1 = r) : callN T gl W n f args st = r := by
  obtain ⟨m, rfl⟩ : ∃ m, n = m + 1 := ⟨n - 1, by omega⟩
  obtain ⟨env1, s1, h1, h2⟩ := hb
  rw [callN_succ h]
  unfold runBody
  rw [if_pos hl]
  have h1 : evalS ⟨callN T gl W m, gl, W⟩ d.body (args.map some ++ List.replicate (d.names.length - args.length) none) st = .ok (.ret v, env1) s1 := h1
  rw [h1]
  show fin (canB T f) (gc st v s1) = r
  rw [fin_gc]
  exact h2
end

/-! ### comprehensions -/
section
variable {f : Val → Store → Res (Option Val)} {ok : Store → Prop} {D : Nat}
open Classical in
theorem comp_nil {st : Store} : compLoop f ok D [] st = if ok st then Res.ok (.ref D) st else Res.stuck := by
  simp only [compLoop]
/-- one item more -/
theorem comp_one {x y : Val} {xs : List Val} {pre : Store} {acc : List Val} {post : Store} {st2 : Store} (h : ok (pre ++ .lst acc :: post)) (hD : D = pre.length) (hf : f x (pre ++ .lst acc :: post) = .ok (some y) st2) (h2 : st2[D]? = some (.lst acc)) (hl : acc.length < sizeLine) :
    compLoop f ok D (x :: xs) (pre ++ .lst acc :: post) = compLoop f ok D xs (st2.set D (.lst (acc ++ [y]))) := by
  simp only [compLoop]
  rw [if_pos h, hf, bind_ok]
  simp only [h2]
  rw [if_pos hl]
theorem comp_skip {x : Val} {xs : List Val} {st st2 : Store} (h : ok st) (hf : f x st = .ok none st2) : compLoop f ok D (x :: xs) st = compLoop f ok D xs st2 := by
  simp only [compLoop]
  rw [if_pos h, hf, bind_ok]
/-- every item gives one, the store stays -/
theorem comp_map {α : Type} {g : α → Val} {enc : α → Val} {pre : Store} (hD : D = pre.length) (hok : ∀ acc, ok (pre ++ [.lst acc])) :
    ∀ (xs : List α) (acc : List Val), (∀ a ∈ xs, ∀ acc, f (enc a) (pre ++ [.lst acc]) = .ok (some (g a)) (pre ++ [.lst acc])) → acc.length + xs.length ≤ sizeLine → compLoop f ok D (xs.map enc) (pre ++ [.lst acc]) = .ok (.ref D) (pre ++ [.lst (acc ++ xs.map g)])
  | [], acc, _, _ => by
    rw [List.map_nil, List.map_nil, List.append_nil, comp_nil]
    exact if_pos (hok _)
  | x :: xs, acc, hf, hl => by
    have e : (pre ++ [Cell.lst acc])[D]? = some (.lst acc) := by rw [hD, List.getElem?_append_right (Nat.le_refl _)]; simp
    have e2 : (pre ++ [Cell.lst acc]).set D (.lst (acc ++ [g x])) = pre ++ [.lst (acc ++ [g x])] := by
      rw [hD, List.set_append_right _ _ (Nat.le_refl _)]; simp
    rw [List.map_cons, comp_one (post := []) (hok _) hD (hf x List.mem_cons_self acc) e (by simp at hl; omega), e2, comp_map hD hok xs (acc ++ [g x]) (fun a ha => hf a (List.mem_cons_of_mem _ ha)) (by simp at hl ⊢; omega)]
    simp
end
theorem gc_ret {st : Store} {xs : List Val} (h : lowL st.length xs = true) : gc st (.ref st.length) (st ++ [.lst xs]) = .ok (.ref st.length) (st ++ [.lst xs]) := gc_new (Nat.le_refl _) (by simp) h
end Ev

set_option Elab.async false
set_option linter.all false
set_option maxRecDepth 100000
set_option maxHeartbeats 4000000
/-! ## The errors' classes by the head's look -/
namespace Ev
open PySem PySem.Spec PyProof.Rows L2
def ba2 {a b : Bool} (h : (a && b) = true) : a = true ∧ b = true := Bool.and_eq_true_iff.mp h
theorem excCB_ok {K : PySem.W.Frag} {D : Addr} (h : excCB K D = true) : ExcC K D := by
  obtain ⟨h1, h⟩ := ba2 h
  obtain ⟨h2, h⟩ := ba2 h
  obtain ⟨h3, h⟩ := ba2 h
  obtain ⟨h4, h⟩ := ba2 h
  obtain ⟨h5, h⟩ := ba2 h
  obtain ⟨h6, h⟩ := ba2 h
  obtain ⟨h7, h8⟩ := ba2 h
  exact ⟨of_decide_eq_true h1, of_decide_eq_true h2, of_decide_eq_true h3, h4, of_decide_eq_true h5, of_decide_eq_true h6, of_decide_eq_true h7, of_decide_eq_true h8⟩
/-- all that is looked at -/
theorem all_at {p : Str → Bool} {l : List Str} (h : l.all p = true) {c : Str} (m : c ∈ l) : p c = true := List.all_eq_true.mp h c m
theorem exAll_ok {K : PySem.W.Frag} {h : Heap} {mg : Str → Option Value} (X : K.In h) (G : h.Ns mainGlobals mg) (e : exAllB K = true) (ve : mg "ValueError" = none)
    {p1 p2 q1 q2 q3 q4 : Pos} {fd : FuncData} (F : FunD K "__init__" "Over.__init__" (PySem.OverX.iA p1 p2) (PySem.OverX.iB q1 q2 q3 q4) PySem.OverX.iS [] [] (initA K) fd) : ExOk K mg := by
  obtain ⟨e1, e⟩ := ba2 e
  obtain ⟨e2, e⟩ := ba2 e
  obtain ⟨e3, e4⟩ := ba2 e
  have mem : ∀ c : Str, (c = "Over" ∨ c ∈ exc0) → c ∈ (("Over" : Str) :: exc0) := fun c m => by
    rcases m with m | m
    · rw [m]; exact List.mem_cons_self
    · exact List.mem_cons_of_mem _ m
  have cl : ∀ c : Str, (c = "Over" ∨ c ∈ exc0) → clsB K c = true := fun c m => all_at e2 (mem c m)
  have ns : ∀ c : Str, (c = "Over" ∨ c ∈ exc0) → PySem.W.nsIn K mainGlobals c = some (some (.ref (cA K c))) := fun c m => of_decide_eq_true (ba2 (cl c m)).1
  have ec := fun c m => excCB_ok (ba2 (ba2 (cl c m)).2).1
  refine
    { ns := ns
      gl := fun c m => ?_
      ve := ve
      isC := ec
      exm := fun c m => of_decide_eq_true (ba2 (ba2 (ba2 (cl c m)).2).2).1
      kit := fun c c' m m' => ?_
      kitV := fun c m => of_decide_eq_true (ba2 (ba2 (ba2 (ba2 (cl c m)).2).2).2).2
      mke := fun c m => ?_
      over := ?_ }
  · rcases m with m | m
    · rw [m]
      exact PySem.W.mg_of X G (of_decide_eq_true e1)
    · exact PySem.W.mg_of X G (ns c m)
  · have a := (ba2 (ba2 (ba2 (ba2 (cl c m)).2).2).2).1
    refine of_decide_eq_true (List.all_eq_true.mp a c' ?_)
    rcases m' with m' | m' | m'
    · rw [m']; exact List.mem_cons_self
    · rw [m']; exact List.mem_cons_of_mem _ List.mem_cons_self
    · exact List.mem_cons_of_mem _ (List.mem_cons_of_mem _ m')
  · have a := all_at e3 m
    exact ⟨(ba2 a).1, (ba2 (ba2 a).2).1, of_decide_eq_true (ba2 (ba2 (ba2 a).2).2).1, of_decide_eq_true (ba2 (ba2 (ba2 a).2).2).2⟩
  · obtain ⟨o1, o⟩ := ba2 e4
    obtain ⟨o2, o⟩ := ba2 o
    obtain ⟨o3, o⟩ := ba2 o
    obtain ⟨o4, o⟩ := ba2 o
    obtain ⟨o5, o⟩ := ba2 o
    obtain ⟨o6, o⟩ := ba2 o
    obtain ⟨o7, o8⟩ := ba2 o
    have E := ec "Over" (.inl rfl)
    refine ⟨initA K,
      { gC := PySem.W.mg_of X G (ns "Over" (.inl rfl))
        cls := ?_
        sa := of_decide_eq_true o2
        ga := E.hg
        gg := E.hk
        noN := of_decide_eq_true o3
        iC := of_decide_eq_true o4
        tC := of_decide_eq_true o5
        kC := o6
        exC := E.hs
        tyC := of_decide_eq_true o7
        hdC := E.hd
        te := of_decide_eq_true o8
        fn := ?_ }⟩
    · unfold oclsB at o1
      split at o1
      · rename_i dd cd sl ho
        split at o1
        · rename_i C' bm k0 k1 k2 k3 n k5 hm hs
          simp only [Bool.and_eq_true, decide_eq_true_eq, Bool.not_eq_true'] at o1
          obtain ⟨rfl, rfl, hdel, hok, hdct⟩ := o1
          obtain ⟨nm, bs, mro, nsA, qn, hd, sn, sub, ab, col, del⟩ := cd
          dsimp only at hm hdel hdct
          subst hm hdel hdct
          have hsl : sl = #[k0, k1, k2, k3, some (.builtin "ValueError.__new__"), k5] := by
            obtain ⟨l⟩ := sl
            simp only at hs
            rw [hs]
          subst hsl
          exact ⟨nm, qn, nsA, bs, bm, sn, sub, ab, col, dd, k0, k1, k2, k3, k5, ho, hok⟩
        · cases o1
      · cases o1
    · obtain ⟨oc, od, dV, kV, doc, pm, an, cdv, ct, osl, rfl, lk, hcd, hd, hk⟩ := F.ex
      rcases hd with ⟨_, rfl⟩ | ⟨z, _⟩
      · exact ⟨oc, od, kV, doc, pm, an, cdv, ct, osl, p1, p2, q1, q2, q3, q4, lk, hcd⟩
      · exact absurd rfl z
/-- a def that nothing leaves, by a promise without an error -/
theorem fn_calm {P : Program} {w : World} {K : PySem.W.Frag} {mg : Str → Option Value} {base : Heap} {k : Nat} {f : Addr} {fd : FuncData} {ps : List Str} {sp : Sp} (F : FnOk P w K mg base (L2.CX P w) k f fd ps sp) : FnOk P w K mg base CX0 k f fd ps (fun vs H Q _ => sp vs H Q fun _ _ _ => False) :=
  ⟨fun vs H Q E h => F.len vs H Q _ h, fun A outer s H args us vs Q E hr he hb hv hs => codeAny_mono (F.run A outer s H args us vs Q _ hr he hb hv hs) fun r s' h => by
    cases r with
    | ok v => cases v <;> exact h
    | error e =>
      obtain ⟨_, _, _, _, _, _, _, _, _, _, _, _, z⟩ := h
      exact z.elim⟩
end Ev

set_option Elab.async false
set_option linter.all false
set_option maxRecDepth 100000
set_option maxHeartbeats 0
namespace Ev
open PySem
/-! ### texts of the program -/
/-! ### the defs of the program, as core terms -/
def c_is_number : Def := ⟨3, ["thing", "least", "most"], (.seq (.ret (.and2 (.isi .int (.var 0)) (.and2 (.not_ (.isi .bool (.var 0))) (.and1 (.chain .le .le (.var 1) (.var 0) (.var 2)))))) .skip)⟩
def c_is_turn : Def := ⟨1, ["thing"], (.seq (.ret (.and2 (.isi .str (.var 0)) (.and1 (.cmp .isin (.var 0) (.glob s_TURNS))))) .skip)⟩
def c_is_race : Def := ⟨2, ["thing", "room"], (.seq (.if_ (.or2 (.not_ (.call f_is_shape (.cons (.ix (.var 0) (.int_ 1)) (.cons (.var 1) .nil)))) (.or1 (.not_ (.call f_is_number (.cons (.ix (.var 0) (.int_ 2)) (.cons (.int_ 1) (.cons (.glob s_MOST_GOAL) .nil))))))) (.seq (.ret (.bool_ false)) .skip) .skip) (.seq (.ret (.and2 (.call f_is_number (.cons (.ix (.var 0) (.int_ 3)) (.cons (.int_ 1) (.cons (.glob s_MOST_LEAD) .nil)))) (.and1 (.call f_is_turn (.cons (.ix (.var 0) (.neg (.int_ 1))) .nil))))) .skip))⟩
def c_is_tied : Def := ⟨2, ["thing", "room"], (.seq (.if_ (.or2 (.not_ (.call f_is_race (.cons (.var 0) (.cons (.var 1) .nil)))) (.or2 (.not_ (.call f_is_number (.cons (.ix (.var 0) (.int_ 4)) (.cons (.int_ 1) (.cons (.glob s_MOST_GOAL) .nil))))) (.or1 (.not_ (.call f_is_shape (.cons (.ix (.var 0) (.int_ 5)) (.cons (.var 1) .nil))))))) (.seq (.ret (.bool_ false)) .skip) .skip) (.seq (.ret (.or2 (.cmp .gt (.ix (.var 0) (.int_ 3)) (.int_ 1)) (.or1 (.cmp .lt (.ix (.var 0) (.int_ 4)) (.ix (.var 0) (.int_ 2)))))) .skip))⟩
def c_is_series : Def := ⟨2, ["thing", "room", "one"], (.seq (.if_ (.or2 (.not_ (.isi .tuple (.ix (.var 0) (.int_ 1)))) (.or2 (.cmp .notin (.bi .len (.cons (.ix (.var 0) (.int_ 1)) .nil)) (.glob s_SERIES)) (.or1 (.not_ (.call f_is_turn (.cons (.ix (.var 0) (.int_ 2)) .nil)))))) (.seq (.ret (.bool_ false)) .skip) .skip) (.seq (.ret (.bi .all (.cons (.comp .seq 2 (.ix (.var 0) (.int_ 1)) .nil (.call f_is_shape (.cons (.var 2) (.cons (.var 1) .nil)))) .nil))) .skip))⟩
def c_is_shape : Def := ⟨2, ["thing", "room"], (.seq (.if_ (.or2 (.cmp .eq (.var 1) (.int_ 0)) (.or2 (.not_ (.isi .tuple (.var 0))) (.or2 (.cmp .eq (.var 0) (.tup .nil)) (.or1 (.not_ (.isi .str (.ix (.var 0) (.int_ 0)))))))) (.seq (.ret (.bool_ false)) .skip) .skip) (.seq (.if_ (.cmp .eq (.ix (.var 0) (.int_ 0)) (.str_ s_point)) (.seq (.ret (.cmp .eq (.bi .len (.cons (.var 0) .nil)) (.int_ 1))) .skip) .skip) (.seq (.if_ (.cmp .eq (.ix (.var 0) (.int_ 0)) (.str_ s_race)) (.seq (.ret (.and2 (.cmp .eq (.bi .len (.cons (.var 0) .nil)) (.int_ 5)) (.and1 (.call f_is_race (.cons (.var 0) (.cons (.bin .sub (.var 1) (.int_ 1)) .nil)))))) .skip) .skip) (.seq (.if_ (.cmp .eq (.ix (.var 0) (.int_ 0)) (.str_ s_tied)) (.seq (.ret (.and2 (.cmp .eq (.bi .len (.cons (.var 0) .nil)) (.int_ 7)) (.and1 (.call f_is_tied (.cons (.var 0) (.cons (.bin .sub (.var 1) (.int_ 1)) .nil)))))) .skip) .skip) (.seq (.ret (.and2 (.cmp .eq (.ix (.var 0) (.int_ 0)) (.str_ s_series)) (.and2 (.cmp .eq (.bi .len (.cons (.var 0) .nil)) (.int_ 3)) (.and1 (.call f_is_series (.cons (.var 0) (.cons (.bin .sub (.var 1) (.int_ 1)) .nil))))))) .skip)))))⟩
def c_parts : Def := ⟨1, ["form"], (.seq (.if_ (.cmp .eq (.ix (.var 0) (.int_ 0)) (.str_ s_point)) (.seq (.ret (.lst .nil)) .skip) .skip) (.seq (.if_ (.cmp .eq (.ix (.var 0) (.int_ 0)) (.str_ s_series)) (.seq (.ret (.bi .list (.cons (.ix (.var 0) (.int_ 1)) .nil))) .skip) .skip) (.seq (.ret (.ifx (.cmp .eq (.ix (.var 0) (.int_ 0)) (.str_ s_race)) (.lst (.cons (.ix (.var 0) (.int_ 1)) .nil)) (.lst (.cons (.ix (.var 0) (.int_ 1)) (.cons (.ix (.var 0) (.int_ 5)) .nil))))) .skip)))⟩
def c_size_of : Def := ⟨1, ["form", "one"], (.seq (.ret (.bin .add (.int_ 1) (.bi .sum (.cons (.comp .seq 1 (.call f_parts (.cons (.var 0) .nil)) .nil (.call f_size_of (.cons (.var 1) .nil))) .nil)))) .skip)⟩
def c_is_form : Def := ⟨1, ["thing"], (.seq (.ret (.and2 (.call f_is_shape (.cons (.var 0) (.cons (.glob s_MOST_DEEP) .nil))) (.and1 (.cmp .le (.call f_size_of (.cons (.var 0) .nil)) (.glob s_MOST_SIZE))))) .skip)⟩
def c_look_form : Def := ⟨1, ["form"], (.seq (.if_ (.not_ (.call f_is_form (.cons (.var 0) .nil))) (.seq (.raise0 "BadForm") .skip) .skip) .skip)⟩
def c_look_side : Def := ⟨1, ["side"], (.seq (.if_ (.not_ (.call f_is_number (.cons (.var 0) (.cons (.int_ 0) (.cons (.int_ 1) .nil))))) (.seq (.raise0 "BadSide") .skip) .skip) .skip)⟩
def c_look_row : Def := ⟨1, ["row", "one"], (.seq (.if_ (.or2 (.not_ (.isi .list (.var 0))) (.or2 (.cmp .gt (.bi .len (.cons (.var 0) .nil)) (.glob s_MOST_POINTS)) (.or1 (.not_ (.bi .all (.cons (.comp .seq 1 (.var 0) .nil (.call f_is_number (.cons (.var 1) (.cons (.int_ 0) (.cons (.int_ 1) .nil))))) .nil)))))) (.seq (.raise0 "BadRow") .skip) .skip) .skip)⟩
def c_inner_at : Def := ⟨3, ["form", "mine", "its"], (.seq (.if_ (.cmp .eq (.ix (.var 0) (.int_ 0)) (.str_ s_series)) (.seq (.ret (.ix (.ix (.var 0) (.int_ 1)) (.bin .add (.var 1) (.var 2)))) .skip) .skip) (.seq (.if_ (.and2 (.cmp .eq (.ix (.var 0) (.int_ 0)) (.str_ s_tied)) (.and1 (.chain .eq .eq (.var 1) (.var 2) (.ix (.var 0) (.int_ 4))))) (.seq (.ret (.ix (.var 0) (.int_ 5))) .skip) .skip) (.seq (.ret (.ix (.var 0) (.int_ 1))) .skip)))⟩
def c_begun : Def := ⟨2, ["form", "first"], (.seq (.if_ (.cmp .eq (.ix (.var 0) (.int_ 0)) (.str_ s_point)) (.seq (.ret (.tup (.cons (.var 0) (.cons (.var 1) .nil)))) .skip) .skip) (.seq (.ret (.tup (.cons (.var 0) (.cons (.var 1) (.cons (.int_ 0) (.cons (.int_ 0) (.cons (.call f_begun (.cons (.call f_inner_at (.cons (.var 0) (.cons (.int_ 0) (.cons (.int_ 0) .nil)))) (.cons (.var 1) .nil))) .nil))))))) .skip))⟩
def c_won_by : Def := ⟨3, ["form", "mine", "its", "goal", "lead"], (.seq (.if_ (.cmp .eq (.ix (.var 0) (.int_ 0)) (.str_ s_series)) (.seq (.set 3 (.bin .add (.bin .fdiv (.bi .len (.cons (.ix (.var 0) (.int_ 1)) .nil)) (.int_ 2)) (.int_ 1))) (.seq (.set 4 (.int_ 1)) .skip)) (.seq (.set 3 (.ix (.var 0) (.int_ 2))) (.seq (.set 4 (.ix (.var 0) (.int_ 3))) .skip))) (.seq (.if_ (.or2 (.cmp .lt (.bi .max (.cons (.var 1) (.cons (.var 2) .nil))) (.var 3)) (.or1 (.cmp .lt (.bi .abs (.cons (.bin .sub (.var 1) (.var 2)) .nil)) (.var 4)))) (.seq (.ret .none_) .skip) .skip) (.seq (.ret (.ifx (.cmp .gt (.var 1) (.var 2)) (.int_ 0) (.int_ 1))) .skip)))⟩
def c_served : Def := ⟨5, ["form", "first", "number", "winner", "tail", "turn", "same"], (.seq (.set 5 (.ix (.var 0) (.neg (.int_ 1)))) (.seq (.if_ (.cmp .eq (.var 5) (.str_ s_winner)) (.seq (.ret (.var 3)) .skip) .skip) (.seq (.if_ (.cmp .eq (.var 5) (.str_ s_on)) (.seq (.ret (.bin .sub (.int_ 1) (.var 4))) .skip) .skip) (.seq (.if_ (.cmp .eq (.var 5) (.str_ s_keep)) (.seq (.ret (.var 1)) .skip) .skip) (.seq (.set 6 (.ix (.dict (.kv (.str_ s_each) (.tup (.cons (.int_ 0) (.cons (.int_ 2) .nil))) (.kv (.str_ s_twos) (.tup (.cons (.int_ 0) (.cons (.int_ 1) .nil))) (.kv (.str_ s_pairs) (.tup (.cons (.int_ 0) (.cons (.int_ 3) .nil))) .nil)))) (.var 5))) (.seq (.ret (.ifx (.cmp .isin (.bin .mod (.var 2) (.int_ 4)) (.var 6)) (.var 1) (.bin .sub (.int_ 1) (.var 1)))) .skip))))))⟩
def c_decided : Def := ⟨4, ["form", "mine", "its", "winner", "is_last", "later"], (.seq (.set 4 (.and2 (.cmp .eq (.ix (.var 0) (.int_ 0)) (.str_ s_tied)) (.and1 (.chain .eq .eq (.var 1) (.var 2) (.ix (.var 0) (.int_ 4)))))) (.seq (.set 5 (.ifx (.cmp .eq (.var 3) (.int_ 0)) (.tup (.cons (.bin .add (.var 1) (.int_ 1)) (.cons (.var 2) .nil))) (.tup (.cons (.var 1) (.cons (.bin .add (.var 2) (.int_ 1)) .nil))))) (.seq (.ret (.tup (.cons (.var 5) (.cons (.ifx (.var 4) (.var 3) (.call f_won_by (.cons (.var 0) (.cons (.ix (.var 5) (.int_ 0)) (.cons (.ix (.var 5) (.int_ 1)) .nil))))) .nil)))) .skip)))⟩
def c_behind : Def := ⟨3, ["state", "winner", "tail", "number", "served_by", "form", "first", "mine", "its", "inner", "later", "who"], (.seq (.tset [5, 6, 7, 8, 9] (.var 0)) (.seq (.tset [10, 11] (.call f_decided (.cons (.var 5) (.cons (.var 7) (.cons (.var 8) (.cons (.var 1) .nil)))))) (.seq (.if_ (.cmp .isnot (.var 11) .none_) (.seq (.ret (.tup (.cons (.str_ s_over) (.cons (.var 11) (.cons (.ix (.var 9) (.int_ 1)) (.cons (.var 10) .nil)))))) .skip) .skip) (.seq (.set 3 (.bin .add (.ix (.var 10) (.int_ 0)) (.ix (.var 10) (.int_ 1)))) (.seq (.set 4 (.call f_served (.cons (.var 5) (.cons (.var 6) (.cons (.var 3) (.cons (.var 1) (.cons (.var 2) .nil))))))) (.seq (.ret (.tup (.cons (.var 5) (.cons (.var 6) (.cons (.ix (.var 10) (.int_ 0)) (.cons (.ix (.var 10) (.int_ 1)) (.cons (.call f_begun (.cons (.call f_inner_at (.cons (.var 5) (.cons (.ix (.var 10) (.int_ 0)) (.cons (.ix (.var 10) (.int_ 1)) .nil)))) (.cons (.var 4) .nil))) .nil))))))) .skip))))))⟩
def c_lifted : Def := ⟨3, ["state", "inner", "closed", "later"], (.seq (.if_ (.cmp .ne (.ix (.var 1) (.int_ 0)) (.str_ s_over)) (.seq (.ret (.tup (.cons (.bin .add (.slice (.var 0) .nil (.int_ 4)) (.tup (.cons (.var 1) .nil))) (.cons (.var 2) .nil)))) .skip) .skip) (.seq (.set 3 (.call f_behind (.cons (.var 0) (.cons (.ix (.var 1) (.int_ 1)) (.cons (.ix (.var 1) (.int_ 2)) .nil))))) (.seq (.ret (.tup (.cons (.var 3) (.cons (.bin .add (.var 2) (.bi .int (.cons (.cmp .eq (.ix (.var 3) (.int_ 0)) (.str_ s_over)) .nil))) .nil)))) .skip)))⟩
def c_pushed : Def := ⟨2, ["state", "side", "inner", "closed"], (.seq (.if_ (.cmp .eq (.bi .len (.cons (.var 0) .nil)) (.int_ 2)) (.seq (.ret (.tup (.cons (.tup (.cons (.str_ s_over) (.cons (.var 1) (.cons (.ix (.var 0) (.int_ 1)) (.cons .none_ .nil))))) (.cons (.int_ 0) .nil)))) .skip) .skip) (.seq (.tset [2, 3] (.call f_pushed (.cons (.ix (.var 0) (.int_ 4)) (.cons (.var 1) .nil)))) (.seq (.ret (.call f_lifted (.cons (.var 0) (.cons (.var 2) (.cons (.var 3) .nil))))) .skip)))⟩
def c_pairs : Def := ⟨1, ["state"], (.seq (.if_ (.cmp .eq (.ix (.var 0) (.int_ 0)) (.str_ s_over)) (.seq (.ret (.ifx (.cmp .is_ (.ix (.var 0) (.int_ 3)) .none_) (.tup .nil) (.tup (.cons (.ix (.var 0) (.int_ 3)) .nil)))) .skip) .skip) (.seq (.if_ (.cmp .eq (.bi .len (.cons (.var 0) .nil)) (.int_ 2)) (.seq (.ret (.tup .nil)) .skip) .skip) (.seq (.ret (.bin .add (.tup (.cons (.tup (.cons (.ix (.var 0) (.int_ 2)) (.cons (.ix (.var 0) (.int_ 3)) .nil))) .nil)) (.call f_pairs (.cons (.ix (.var 0) (.int_ 4)) .nil)))) .skip)))⟩
def c_server_of : Def := ⟨1, ["state"], (.seq (.if_ (.cmp .eq (.ix (.var 0) (.int_ 0)) (.str_ s_over)) (.seq (.ret .none_) .skip) .skip) (.seq (.ret (.ifx (.cmp .eq (.bi .len (.cons (.var 0) .nil)) (.int_ 2)) (.ix (.var 0) (.int_ 1)) (.call f_server_of (.cons (.ix (.var 0) (.int_ 4)) .nil)))) .skip))⟩
def c_winner_of : Def := ⟨1, ["state"], (.seq (.ret (.ifx (.cmp .eq (.ix (.var 0) (.int_ 0)) (.str_ s_over)) (.ix (.var 0) (.int_ 1)) .none_)) .skip)⟩
def c_played : Def := ⟨3, ["form", "first", "row", "state", "at"], (.seq (.set 3 (.call f_begun (.cons (.var 0) (.cons (.var 1) .nil)))) (.seq (.for_ .range [4] (.cons (.bi .len (.cons (.var 2) .nil)) .nil) (.seq (.if_ (.cmp .eq (.ix (.var 3) (.int_ 0)) (.str_ s_over)) (.seq (.raise1 "Over" (.var 4)) .skip) .skip) (.seq (.set 3 (.ix (.call f_pushed (.cons (.var 3) (.cons (.ix (.var 2) (.var 4)) .nil))) (.int_ 0))) .skip))) (.seq (.ret (.var 3)) .skip)))⟩
def c_state_of : Def := ⟨3, ["form", "first", "row"], (.seq (.expr (.call f_look_form (.cons (.var 0) .nil))) (.seq (.expr (.call f_look_side (.cons (.var 1) .nil))) (.seq (.expr (.call f_look_row (.cons (.var 2) .nil))) (.seq (.ret (.call f_played (.cons (.var 0) (.cons (.var 1) (.cons (.var 2) .nil))))) .skip))))⟩
def c_standing : Def := ⟨3, ["form", "first", "row"], (.seq (.ret (.call f_pairs (.cons (.call f_state_of (.cons (.var 0) (.cons (.var 1) (.cons (.var 2) .nil)))) .nil))) .skip)⟩
def c_winner : Def := ⟨3, ["form", "first", "row"], (.seq (.ret (.call f_winner_of (.cons (.call f_state_of (.cons (.var 0) (.cons (.var 1) (.cons (.var 2) .nil)))) .nil))) .skip)⟩
def c_server : Def := ⟨3, ["form", "first", "row"], (.seq (.ret (.call f_server_of (.cons (.call f_state_of (.cons (.var 0) (.cons (.var 1) (.cons (.var 2) .nil)))) .nil))) .skip)⟩
def c__law_cell : Def := ⟨2, ["script", "k"], (.seq (.if_ (.var 0) (.seq (.ret (.ix (.var 0) (.bin .mod (.var 1) (.bi .len (.cons (.var 0) .nil))))) .skip) .skip) (.seq (.ret (.int_ 0)) .skip))⟩
def c__law_mix : Def := ⟨2, ["script", "k", "number"], (.seq (.set 2 (.bin .mod (.bin .add (.call f__law_cell (.cons (.var 0) (.cons (.var 1) .nil))) (.bin .mul (.int_ 104729) (.bin .add (.var 1) (.int_ 1)))) (.int_ 4294967291))) (.seq (.set 2 (.bin .mod (.bin .pow (.var 2) (.int_ 5)) (.int_ 4294967279))) (.seq (.ret (.bin .mod (.bin .add (.bin .mul (.bin .fdiv (.var 2) (.int_ 64)) (.int_ 69621)) (.var 2)) (.int_ 4294967231))) .skip)))⟩
def c__law_draw : Def := ⟨3, ["script", "town", "many"], (.seq (.expr (.meth .append (.var 1) (.cons (.int_ 0) .nil))) (.seq (.ret (.bin .mod (.bin .fdiv (.call f__law_mix (.cons (.var 0) (.cons (.bi .len (.cons (.var 1) .nil)) .nil))) (.int_ 8)) (.var 2))) .skip))⟩
def c__law_pick : Def := ⟨3, ["script", "town", "some"], (.seq (.ret (.ix (.var 2) (.call f__law_draw (.cons (.var 0) (.cons (.var 1) (.cons (.bi .len (.cons (.var 2) .nil)) .nil)))))) .skip)⟩
def c__law_refusal : Def := ⟨1, ["caught", "kinds", "words"], (.seq (.if_ (.cmp .is_ (.var 0) .none_) (.seq (.ret (.tup (.cons (.str_ s_ok) .nil))) .skip) .skip) (.seq (.if_ (.not_ (.isx "ValueError" (.var 0))) (.seq (.ret (.tup (.cons (.str_ s_wrong) .nil))) .skip) .skip) (.seq (.set 1 (.lst (.cons (.isx "BadForm" (.var 0)) (.cons (.isx "BadSide" (.var 0)) (.cons (.isx "BadRow" (.var 0)) .nil))))) (.seq (.set 1 (.bin .add (.var 1) (.lst (.cons (.isx "NotOver" (.var 0)) (.cons (.isx "BadTree" (.var 0)) (.cons (.isx "NoGift" (.var 0)) .nil)))))) (.seq (.set 1 (.bin .add (.var 1) (.lst (.cons (.isx "NoPoint" (.var 0)) (.cons (.isx "Full" (.var 0)) (.cons (.isx "Stuck" (.var 0)) .nil)))))) (.seq (.set 1 (.bin .add (.var 1) (.lst (.cons (.isx "Nothing" (.var 0)) (.cons (.isx "BadNumber" (.var 0)) (.cons (.isx "BadShare" (.var 0)) .nil)))))) (.seq (.set 1 (.bin .add (.var 1) (.lst (.cons (.isx "BadText" (.var 0)) (.cons (.isx "BadName" (.var 0)) (.cons (.isx "NoName" (.var 0)) .nil)))))) (.seq (.set 1 (.bin .add (.var 1) (.lst (.cons (.isx "NoMatch" (.var 0)) (.cons (.isx "Over" (.var 0)) .nil))))) (.seq (.if_ (.cmp .ne (.meth .count (.var 1) (.cons (.bool_ true) .nil)) (.int_ 1)) (.seq (.ret (.tup (.cons (.str_ s_wrong) .nil))) .skip) .skip) (.seq (.if_ (.ix (.var 1) (.neg (.int_ 1))) (.seq (.ret (.ifx (.not_ (.isi .bool (.fld "at" (.var 0)))) (.tup (.cons (.str_ s_over) (.cons (.fld "at" (.var 0)) .nil))) (.tup (.cons (.str_ s_wrong) .nil)))) .skip) .skip) (.seq (.set 2 (.lst (.cons (.str_ s_form) (.cons (.str_ s_side) (.cons (.str_ s_row) (.cons (.str_ s_not_over) (.cons (.str_ s_tree) (.cons (.str_ s_gift) (.cons (.str_ s_point) (.cons (.str_ s_full) (.cons (.str_ s_stuck) (.cons (.str_ s_nothing) (.cons (.str_ s_number) (.cons (.str_ s_share) .nil)))))))))))))) (.seq (.ret (.tup (.cons (.str_ s_refused) (.cons (.ix (.bin .add (.var 2) (.lst (.cons (.str_ s_text) (.cons (.str_ s_name) (.cons (.str_ s_no_name) (.cons (.str_ s_match) .nil)))))) (.meth .index (.var 1) (.cons (.bool_ true) .nil))) .nil)))) .skip))))))))))))⟩
def c__law_turn : Def := ⟨2, ["script", "town"], (.seq (.ret (.call f__law_pick (.cons (.var 0) (.cons (.var 1) (.cons (.lst (.cons (.str_ s_keep) (.cons (.str_ s_each) (.cons (.str_ s_twos) (.cons (.str_ s_pairs) (.cons (.str_ s_winner) (.cons (.str_ s_on) .nil))))))) .nil))))) .skip)⟩
def c__law_form : Def := ⟨4, ["script", "town", "layers", "top", "kind", "turn", "inner", "goal", "lead", "some", "k", "even"], (.seq (.set 4 (.call f__law_draw (.cons (.var 0) (.cons (.var 1) (.cons (.int_ 8) .nil))))) (.seq (.if_ (.or2 (.cmp .eq (.var 2) (.int_ 1)) (.or1 (.cmp .eq (.var 4) (.int_ 0)))) (.seq (.ret (.tup (.cons (.str_ s_point) .nil))) .skip) .skip) (.seq (.set 5 (.call f__law_turn (.cons (.var 0) (.cons (.var 1) .nil)))) (.seq (.set 6 (.call f__law_form (.cons (.var 0) (.cons (.var 1) (.cons (.bin .sub (.var 2) (.int_ 1)) (.cons (.var 3) .nil)))))) (.seq (.set 7 (.bin .add (.int_ 1) (.call f__law_draw (.cons (.var 0) (.cons (.var 1) (.cons (.var 3) .nil)))))) (.seq (.set 8 (.call f__law_pick (.cons (.var 0) (.cons (.var 1) (.cons (.lst (.cons (.int_ 1) (.cons (.int_ 2) (.cons (.int_ 2) (.cons (.int_ 3) .nil))))) .nil))))) (.seq (.if_ (.cmp .lt (.var 4) (.int_ 4)) (.seq (.ret (.tup (.cons (.str_ s_race) (.cons (.var 6) (.cons (.var 7) (.cons (.var 8) (.cons (.var 5) .nil))))))) .skip) .skip) (.seq (.if_ (.cmp .lt (.var 4) (.int_ 6)) (.seq (.set 11 (.bin .add (.int_ 1) (.call f__law_draw (.cons (.var 0) (.cons (.var 1) (.cons (.var 3) .nil)))))) (.seq (.if_ (.and2 (.cmp .eq (.var 8) (.int_ 1)) (.and1 (.cmp .ge (.var 11) (.var 7)))) (.seq (.set 7 (.bin .add (.var 11) (.int_ 1))) .skip) .skip) (.seq (.ret (.tup (.cons (.str_ s_tied) (.cons (.var 6) (.cons (.var 7) (.cons (.var 8) (.cons (.var 11) (.cons (.call f__law_form (.cons (.var 0) (.cons (.var 1) (.cons (.bin .sub (.var 2) (.int_ 1)) (.cons (.var 3) .nil))))) (.cons (.var 5) .nil))))))))) .skip))) .skip) (.seq (.set 9 (.lst (.cons (.var 6) .nil))) (.seq (.for_ .range [10] (.cons (.int_ 2) .nil) (.seq (.expr (.meth .append (.var 9) (.cons (.call f__law_form (.cons (.var 0) (.cons (.var 1) (.cons (.bin .sub (.var 2) (.int_ 1)) (.cons (.var 3) .nil))))) .nil))) .skip)) (.seq (.set 9 (.slice (.bin .mul (.var 9) (.int_ 3)) .nil (.call f__law_pick (.cons (.var 0) (.cons (.var 1) (.cons (.lst (.cons (.int_ 1) (.cons (.int_ 3) (.cons (.int_ 3) (.cons (.int_ 5) .nil))))) .nil)))))) (.seq (.ret (.tup (.cons (.str_ s_series) (.cons (.bi .tuple (.cons (.var 9) .nil)) (.cons (.var 5) .nil))))) .skip))))))))))))⟩
def c__law_size : Def := ⟨1, ["form", "inner", "one"], (.seq (.if_ (.cmp .eq (.ix (.var 0) (.int_ 0)) (.str_ s_point)) (.seq (.ret (.int_ 1)) .skip) .skip) (.seq (.set 1 (.ifx (.cmp .eq (.ix (.var 0) (.int_ 0)) (.str_ s_series)) (.bi .list (.cons (.ix (.var 0) (.int_ 1)) .nil)) (.lst (.cons (.ix (.var 0) (.int_ 1)) .nil)))) (.seq (.if_ (.cmp .eq (.ix (.var 0) (.int_ 0)) (.str_ s_tied)) (.seq (.expr (.meth .append (.var 1) (.cons (.ix (.var 0) (.int_ 5)) .nil))) .skip) .skip) (.seq (.ret (.bin .add (.int_ 1) (.bi .sum (.cons (.comp .seq 2 (.var 1) .nil (.call f__law_size (.cons (.var 2) .nil))) .nil)))) .skip))))⟩
def c__law_sized : Def := ⟨4, ["script", "town", "layers", "top", "form"], (.seq (.set 4 (.call f__law_form (.cons (.var 0) (.cons (.var 1) (.cons (.var 2) (.cons (.var 3) .nil)))))) (.seq (.ret (.ifx (.cmp .le (.call f__law_size (.cons (.var 4) .nil)) (.int_ 20)) (.var 4) (.tup (.cons (.str_ s_race) (.cons (.tup (.cons (.str_ s_point) .nil)) (.cons (.var 3) (.cons (.int_ 2) (.cons (.str_ s_pairs) .nil)))))))) .skip))⟩
def c__law_inner : Def := ⟨2, ["form", "wins"], (.seq (.if_ (.cmp .eq (.ix (.var 0) (.int_ 0)) (.str_ s_series)) (.seq (.ret (.ix (.ix (.var 0) (.int_ 1)) (.bin .add (.ix (.var 1) (.int_ 0)) (.ix (.var 1) (.int_ 1))))) .skip) .skip) (.seq (.if_ (.and2 (.cmp .eq (.ix (.var 0) (.int_ 0)) (.str_ s_tied)) (.and1 (.cmp .eq (.var 1) (.lst (.cons (.ix (.var 0) (.int_ 4)) (.cons (.ix (.var 0) (.int_ 4)) .nil)))))) (.seq (.ret (.ix (.var 0) (.int_ 5))) .skip) .skip) (.seq (.ret (.ix (.var 0) (.int_ 1))) .skip)))⟩
def c__law_who : Def := ⟨3, ["form", "wins", "last", "ahead", "high", "low"], (.seq (.tpar 4 5 (.cons (.bi .max (.cons (.var 1) .nil)) (.cons (.bi .min (.cons (.var 1) .nil)) .nil))) (.seq (.if_ (.cmp .eq (.ix (.var 0) (.int_ 0)) (.str_ s_series)) (.seq (.ret (.ifx (.cmp .gt (.bin .mul (.int_ 2) (.var 4)) (.bi .len (.cons (.ix (.var 0) (.int_ 1)) .nil))) (.meth .index (.var 1) (.cons (.var 4) .nil)) .none_)) .skip) .skip) (.seq (.set 3 (.lst (.cons (.bin .sub (.ix (.var 1) (.int_ 0)) (.bi .int (.cons (.cmp .eq (.var 2) (.int_ 0)) .nil))) (.cons (.bin .sub (.ix (.var 1) (.int_ 1)) (.bi .int (.cons (.cmp .eq (.var 2) (.int_ 1)) .nil))) .nil)))) (.seq (.if_ (.and2 (.cmp .eq (.ix (.var 0) (.int_ 0)) (.str_ s_tied)) (.and1 (.cmp .eq (.var 3) (.lst (.cons (.ix (.var 0) (.int_ 4)) (.cons (.ix (.var 0) (.int_ 4)) .nil)))))) (.seq (.ret (.var 2)) .skip) .skip) (.seq (.ret (.ifx (.and2 (.cmp .ge (.var 4) (.ix (.var 0) (.int_ 2))) (.and1 (.cmp .ge (.bin .sub (.var 4) (.var 5)) (.ix (.var 0) (.int_ 3))))) (.meth .index (.var 1) (.cons (.var 4) .nil)) .none_)) .skip)))))⟩
def c__law_serves : Def := ⟨3, ["turn", "first", "ones", "number", "turns"], (.seq (.set 3 (.bi .len (.cons (.var 2) .nil))) (.seq (.if_ (.or2 (.cmp .eq (.var 3) (.int_ 0)) (.or1 (.cmp .eq (.var 0) (.str_ s_keep)))) (.seq (.ret (.var 1)) .skip) .skip) (.seq (.if_ (.cmp .eq (.var 0) (.str_ s_winner)) (.seq (.ret (.ix (.ix (.var 2) (.neg (.int_ 1))) (.int_ 0))) .skip) .skip) (.seq (.if_ (.cmp .eq (.var 0) (.str_ s_on)) (.seq (.ret (.bin .sub (.int_ 1) (.ix (.ix (.var 2) (.neg (.int_ 1))) (.int_ 1)))) .skip) .skip) (.seq (.set 4 (.ix (.dict (.kv (.str_ s_each) (.lst (.cons (.int_ 0) (.cons (.int_ 1) (.cons (.int_ 0) (.cons (.int_ 1) .nil))))) (.kv (.str_ s_twos) (.lst (.cons (.int_ 0) (.cons (.int_ 0) (.cons (.int_ 1) (.cons (.int_ 1) .nil))))) (.kv (.str_ s_pairs) (.lst (.cons (.int_ 0) (.cons (.int_ 1) (.cons (.int_ 1) (.cons (.int_ 0) .nil))))) .nil)))) (.var 0))) (.seq (.ret (.ix (.lst (.cons (.var 1) (.cons (.bin .sub (.int_ 1) (.var 1)) .nil))) (.ix (.var 4) (.bin .mod (.var 3) (.int_ 4))))) .skip))))))⟩
def c__law_play : Def := ⟨4, ["form", "first", "row", "at", "wins", "ones", "by", "inner", "who"], (.seq (.if_ (.cmp .eq (.ix (.var 0) (.int_ 0)) (.str_ s_point)) (.seq (.if_ (.cmp .eq (.var 3) (.bi .len (.cons (.var 2) .nil))) (.seq (.ret (.dict (.kv (.str_ s_end) (.var 3) (.kv (.str_ s_who) .none_ (.kv (.str_ s_tail) (.var 1) (.kv (.str_ s_pairs) (.lst .nil) (.kv (.str_ s_server) (.var 1) .nil))))))) .skip) .skip) (.seq (.ret (.dict (.kv (.str_ s_end) (.bin .add (.var 3) (.int_ 1)) (.kv (.str_ s_who) (.ix (.var 2) (.var 3)) (.kv (.str_ s_tail) (.var 1) (.kv (.str_ s_pairs) (.lst .nil) (.kv (.str_ s_server) .none_ .nil))))))) .skip)) .skip) (.seq (.set 4 (.lst (.cons (.int_ 0) (.cons (.int_ 0) .nil)))) (.seq (.set 5 (.lst .nil)) (.seq (.while_ (.bool_ true) (.seq (.set 6 (.call f__law_serves (.cons (.ix (.var 0) (.neg (.int_ 1))) (.cons (.var 1) (.cons (.var 5) .nil))))) (.seq (.set 7 (.call f__law_play (.cons (.call f__law_inner (.cons (.var 0) (.cons (.var 4) .nil))) (.cons (.var 6) (.cons (.var 2) (.cons (.var 3) .nil)))))) (.seq (.if_ (.cmp .is_ (.ix (.var 7) (.str_ s_who)) .none_) (.seq (.sub (.var 7) (.str_ s_pairs) (.bin .add (.lst (.cons (.bi .tuple (.cons (.var 4) .nil)) .nil)) (.ix (.var 7) (.str_ s_pairs)))) (.seq (.sub (.var 7) (.str_ s_tail) (.var 6)) (.seq (.ret (.var 7)) .skip))) .skip) (.seq (.expr (.meth .append (.var 5) (.cons (.tup (.cons (.ix (.var 7) (.str_ s_who)) (.cons (.ix (.var 7) (.str_ s_tail)) .nil))) .nil))) (.seq (.sub (.var 4) (.ix (.var 7) (.str_ s_who)) (.bin .add (.ix (.var 4) (.ix (.var 7) (.str_ s_who))) (.int_ 1))) (.seq (.set 3 (.ix (.var 7) (.str_ s_end))) (.seq (.set 8 (.call f__law_who (.cons (.var 0) (.cons (.var 4) (.cons (.ix (.var 7) (.str_ s_who)) .nil))))) (.seq (.if_ (.cmp .isnot (.var 8) .none_) (.seq (.ret (.dict (.kv (.str_ s_end) (.var 3) (.kv (.str_ s_who) (.var 8) (.kv (.str_ s_tail) (.var 6) (.kv (.str_ s_pairs) (.lst (.cons (.bi .tuple (.cons (.var 4) .nil)) .nil)) (.kv (.str_ s_server) .none_ .nil))))))) .skip) .skip) .skip))))))))) .skip))))⟩
def c__law_row : Def := ⟨4, ["script", "town", "form", "top", "some", "row", "k"], (.seq (.set 4 (.call f__law_pick (.cons (.var 0) (.cons (.var 1) (.cons (.lst (.cons (.lst (.cons (.int_ 0) (.cons (.int_ 1) .nil))) (.cons (.lst (.cons (.int_ 0) (.cons (.int_ 1) .nil))) (.cons (.lst (.cons (.int_ 0) (.cons (.int_ 0) (.cons (.int_ 0) (.cons (.int_ 1) .nil))))) (.cons (.lst (.cons (.int_ 1) (.cons (.int_ 1) (.cons (.int_ 1) (.cons (.int_ 0) .nil))))) .nil))))) .nil))))) (.seq (.set 5 (.comp .range 6 (.cons (.call f__law_draw (.cons (.var 0) (.cons (.var 1) (.cons (.bin .add (.var 3) (.int_ 1)) .nil)))) .nil) .nil (.call f__law_pick (.cons (.var 0) (.cons (.var 1) (.cons (.var 4) .nil)))))) (.seq (.ret (.slice (.var 5) .nil (.ix (.call f__law_play (.cons (.var 2) (.cons (.int_ 0) (.cons (.var 5) (.cons (.int_ 0) .nil))))) (.str_ s_end)))) .skip)))⟩
def c__law_one : Def := ⟨2, ["kind", "some"], (.seq (.if_ (.cmp .eq (.var 0) (.int_ 0)) (.seq (.ret (.call f_standing (.cons (.ix (.var 1) (.int_ 0)) (.cons (.ix (.var 1) (.int_ 1)) (.cons (.ix (.var 1) (.int_ 2)) .nil))))) .skip) .skip) (.seq (.ret (.ifx (.cmp .eq (.var 0) (.int_ 1)) (.call f_winner (.cons (.ix (.var 1) (.int_ 0)) (.cons (.ix (.var 1) (.int_ 1)) (.cons (.ix (.var 1) (.int_ 2)) .nil)))) (.call f_server (.cons (.ix (.var 1) (.int_ 0)) (.cons (.ix (.var 1) (.int_ 1)) (.cons (.ix (.var 1) (.int_ 2)) .nil)))))) .skip))⟩
def c__law_told : Def := ⟨2, ["kind", "some", "caught", "found", "e"], (.seq (.set 2 .none_) (.seq (.set 3 .none_) (.seq (.tryc 3 (.call f__law_one (.cons (.var 0) (.cons (.var 1) .nil))) "ScoreError" 4 2) (.seq (.ret (.ifx (.cmp .is_ (.var 2) .none_) (.tup (.cons (.str_ s_found) (.cons (.var 3) .nil))) (.call f__law_refusal (.cons (.var 2) .nil)))) .skip))))⟩
def c__law_due : Def := ⟨3, ["form", "first", "row", "found"], (.seq (.set 3 (.call f__law_play (.cons (.var 0) (.cons (.var 1) (.cons (.var 2) (.cons (.int_ 0) .nil)))))) (.seq (.ret (.lst (.cons (.tup (.cons (.str_ s_found) (.cons (.bi .tuple (.cons (.ix (.var 3) (.str_ s_pairs)) .nil)) .nil))) (.cons (.tup (.cons (.str_ s_found) (.cons (.ix (.var 3) (.str_ s_who)) .nil))) (.cons (.tup (.cons (.str_ s_found) (.cons (.ix (.var 3) (.str_ s_server)) .nil))) .nil))))) .skip))⟩
def c_law : Def := ⟨1, ["script", "town", "kind", "form", "other", "first", "row", "its", "given", "turn", "found", "more", "k"], (.seq (.set 1 (.lst .nil)) (.seq (.set 2 (.call f__law_draw (.cons (.var 0) (.cons (.var 1) (.cons (.int_ 4) .nil))))) (.seq (.set 3 (.call f__law_sized (.cons (.var 0) (.cons (.var 1) (.cons (.ifx (.cmp .eq (.var 2) (.int_ 0)) (.int_ 4) (.int_ 3)) (.cons (.ifx (.cmp .eq (.var 2) (.int_ 0)) (.int_ 2) (.int_ 4)) .nil)))))) (.seq (.if_ (.cmp .eq (.var 2) (.int_ 1)) (.seq (.set 3 (.tup (.cons (.str_ s_race) (.cons (.tup (.cons (.str_ s_point) .nil)) (.cons (.call f__law_pick (.cons (.var 0) (.cons (.var 1) (.cons (.lst (.cons (.int_ 11) (.cons (.int_ 21) (.cons (.int_ 30) .nil)))) .nil)))) (.cons (.int_ 2) (.cons (.call f__law_turn (.cons (.var 0) (.cons (.var 1) .nil))) .nil))))))) .skip) .skip) (.seq (.set 4 (.call f__law_sized (.cons (.var 0) (.cons (.var 1) (.cons (.int_ 3) (.cons (.int_ 3) .nil)))))) (.seq (.set 5 (.call f__law_draw (.cons (.var 0) (.cons (.var 1) (.cons (.int_ 2) .nil))))) (.seq (.set 6 (.call f__law_row (.cons (.var 0) (.cons (.var 1) (.cons (.var 3) (.cons (.int_ 80) .nil)))))) (.seq (.set 7 (.call f__law_row (.cons (.var 0) (.cons (.var 1) (.cons (.var 4) (.cons (.int_ 30) .nil)))))) (.seq (.set 8 (.bi .list (.cons (.var 6) .nil))) (.seq (.for_ .range [9] (.cons (.int_ 2) .nil) (.seq (.set 10 (.comp .range 2 (.cons (.int_ 3) .nil) .nil (.call f__law_told (.cons (.var 2) (.cons (.lst (.cons (.var 3) (.cons (.var 5) (.cons (.var 8) .nil)))) .nil))))) (.seq (.if_ (.or2 (.cmp .ne (.var 10) (.call f__law_due (.cons (.var 3) (.cons (.var 5) (.cons (.var 6) .nil))))) (.or1 (.cmp .ne (.var 8) (.var 6)))) (.seq (.ret (.bool_ false)) .skip) .skip) (.seq (.set 10 (.comp .range 2 (.cons (.int_ 3) .nil) .nil (.call f__law_told (.cons (.var 2) (.cons (.lst (.cons (.var 4) (.cons (.bin .sub (.int_ 1) (.var 5)) (.cons (.var 7) .nil)))) .nil))))) (.seq (.if_ (.cmp .ne (.var 10) (.call f__law_due (.cons (.var 4) (.cons (.bin .sub (.int_ 1) (.var 5)) (.cons (.var 7) .nil))))) (.seq (.ret (.bool_ false)) .skip) .skip) .skip))))) (.seq (.if_ (.cmp .isnot (.ix (.call f__law_play (.cons (.var 3) (.cons (.var 5) (.cons (.var 6) (.cons (.int_ 0) .nil))))) (.str_ s_who)) .none_) (.seq (.set 11 (.bin .add (.var 6) (.comp .range 12 (.cons (.bin .add (.int_ 1) (.call f__law_draw (.cons (.var 0) (.cons (.var 1) (.cons (.int_ 3) .nil))))) .nil) .nil (.call f__law_draw (.cons (.var 0) (.cons (.var 1) (.cons (.int_ 2) .nil))))))) (.seq (.if_ (.cmp .ne (.comp .range 2 (.cons (.int_ 3) .nil) .nil (.call f__law_told (.cons (.var 2) (.cons (.lst (.cons (.var 3) (.cons (.var 5) (.cons (.var 11) .nil)))) .nil)))) (.bin .mul (.lst (.cons (.tup (.cons (.str_ s_over) (.cons (.bi .len (.cons (.var 6) .nil)) .nil))) .nil)) (.int_ 3))) (.seq (.ret (.bool_ false)) .skip) .skip) .skip)) .skip) (.seq (.ret (.and2 (.cmp .eq (.call f__law_told (.cons (.int_ 0) (.cons (.lst (.cons (.tup (.cons (.str_ s_point) .nil)) (.cons (.var 5) (.cons (.lst .nil) .nil)))) .nil))) (.tup (.cons (.str_ s_found) (.cons (.tup .nil) .nil)))) (.and1 (.cmp .eq (.call f__law_told (.cons (.int_ 2) (.cons (.lst (.cons (.tup (.cons (.str_ s_point) .nil)) (.cons (.int_ 1) (.cons (.lst .nil) .nil)))) .nil))) (.tup (.cons (.str_ s_found) (.cons (.int_ 1) .nil))))))) .skip))))))))))))⟩
/-! ### what a table holds -/
structure Pg (T : Tab) (gl : Str → Option Val) : Prop where
  is_number : T.lookup f_is_number = some c_is_number
  is_turn : T.lookup f_is_turn = some c_is_turn
  is_race : T.lookup f_is_race = some c_is_race
  is_tied : T.lookup f_is_tied = some c_is_tied
  is_series : T.lookup f_is_series = some c_is_series
  is_shape : T.lookup f_is_shape = some c_is_shape
  parts : T.lookup f_parts = some c_parts
  size_of : T.lookup f_size_of = some c_size_of
  is_form : T.lookup f_is_form = some c_is_form
  look_form : T.lookup f_look_form = some c_look_form
  look_side : T.lookup f_look_side = some c_look_side
  look_row : T.lookup f_look_row = some c_look_row
  inner_at : T.lookup f_inner_at = some c_inner_at
  begun : T.lookup f_begun = some c_begun
  won_by : T.lookup f_won_by = some c_won_by
  served : T.lookup f_served = some c_served
  decided : T.lookup f_decided = some c_decided
  behind : T.lookup f_behind = some c_behind
  lifted : T.lookup f_lifted = some c_lifted
  pushed : T.lookup f_pushed = some c_pushed
  pairs : T.lookup f_pairs = some c_pairs
  server_of : T.lookup f_server_of = some c_server_of
  winner_of : T.lookup f_winner_of = some c_winner_of
  played : T.lookup f_played = some c_played
  state_of : T.lookup f_state_of = some c_state_of
  standing : T.lookup f_standing = some c_standing
  winner : T.lookup f_winner = some c_winner
  server : T.lookup f_server = some c_server
  _law_cell : T.lookup f__law_cell = some c__law_cell
  _law_mix : T.lookup f__law_mix = some c__law_mix
  _law_draw : T.lookup f__law_draw = some c__law_draw
  _law_pick : T.lookup f__law_pick = some c__law_pick
  _law_refusal : T.lookup f__law_refusal = some c__law_refusal
  _law_turn : T.lookup f__law_turn = some c__law_turn
  _law_form : T.lookup f__law_form = some c__law_form
  _law_size : T.lookup f__law_size = some c__law_size
  _law_sized : T.lookup f__law_sized = some c__law_sized
  _law_inner : T.lookup f__law_inner = some c__law_inner
  _law_who : T.lookup f__law_who = some c__law_who
  _law_serves : T.lookup f__law_serves = some c__law_serves
  _law_play : T.lookup f__law_play = some c__law_play
  _law_row : T.lookup f__law_row = some c__law_row
  _law_one : T.lookup f__law_one = some c__law_one
  _law_told : T.lookup f__law_told = some c__law_told
  _law_due : T.lookup f__law_due = some c__law_due
  law : T.lookup f_law = some c_law
  g_TURNS : gl s_TURNS = some (.tup [(.str s_keep), (.str s_each), (.str s_twos), (.str s_pairs), (.str s_winner), (.str s_on)])
  g_MOST_DEEP : gl s_MOST_DEEP = some (.int 4)
  g_MOST_SIZE : gl s_MOST_SIZE = some (.int 20)
  g_MOST_GOAL : gl s_MOST_GOAL = some (.int 30)
  g_MOST_LEAD : gl s_MOST_LEAD = some (.int 3)
  g_SERIES : gl s_SERIES = some (.tup [(.int 1), (.int 3), (.int 5), (.int 7)])
  g_MOST_POINTS : gl s_MOST_POINTS = some (.int 500)
/-! ### the texts differ -/
@[simp] theorem ne_s_series_s_tied : (s_series = s_tied) = False := eq_false (by decide)
@[simp] theorem ne_s_series_s_race : (s_series = s_race) = False := eq_false (by decide)
@[simp] theorem ne_s_series_s_point : (s_series = s_point) = False := eq_false (by decide)
@[simp] theorem ne_s_series_s_pairs : (s_series = s_pairs) = False := eq_false (by decide)
@[simp] theorem ne_s_series_s_twos : (s_series = s_twos) = False := eq_false (by decide)
@[simp] theorem ne_s_series_s_each : (s_series = s_each) = False := eq_false (by decide)
@[simp] theorem ne_s_series_s_keep : (s_series = s_keep) = False := eq_false (by decide)
@[simp] theorem ne_s_series_s_on : (s_series = s_on) = False := eq_false (by decide)
@[simp] theorem ne_s_series_s_winner : (s_series = s_winner) = False := eq_false (by decide)
@[simp] theorem ne_s_series_s_over : (s_series = s_over) = False := eq_false (by decide)
@[simp] theorem ne_s_series_s_match : (s_series = s_match) = False := eq_false (by decide)
@[simp] theorem ne_s_series_s_no_name : (s_series = s_no_name) = False := eq_false (by decide)
@[simp] theorem ne_s_series_s_name : (s_series = s_name) = False := eq_false (by decide)
@[simp] theorem ne_s_series_s_text : (s_series = s_text) = False := eq_false (by decide)
@[simp] theorem ne_s_series_s_refused : (s_series = s_refused) = False := eq_false (by decide)
@[simp] theorem ne_s_series_s_share : (s_series = s_share) = False := eq_false (by decide)
@[simp] theorem ne_s_series_s_number : (s_series = s_number) = False := eq_false (by decide)
@[simp] theorem ne_s_series_s_nothing : (s_series = s_nothing) = False := eq_false (by decide)
@[simp] theorem ne_s_series_s_stuck : (s_series = s_stuck) = False := eq_false (by decide)
@[simp] theorem ne_s_series_s_full : (s_series = s_full) = False := eq_false (by decide)
@[simp] theorem ne_s_series_s_gift : (s_series = s_gift) = False := eq_false (by decide)
@[simp] theorem ne_s_series_s_tree : (s_series = s_tree) = False := eq_false (by decide)
@[simp] theorem ne_s_series_s_not_over : (s_series = s_not_over) = False := eq_false (by decide)
@[simp] theorem ne_s_series_s_row : (s_series = s_row) = False := eq_false (by decide)
@[simp] theorem ne_s_series_s_side : (s_series = s_side) = False := eq_false (by decide)
@[simp] theorem ne_s_series_s_form : (s_series = s_form) = False := eq_false (by decide)
@[simp] theorem ne_s_series_s_wrong : (s_series = s_wrong) = False := eq_false (by decide)
@[simp] theorem ne_s_series_s_ok : (s_series = s_ok) = False := eq_false (by decide)
@[simp] theorem ne_s_series_s_server : (s_series = s_server) = False := eq_false (by decide)
@[simp] theorem ne_s_series_s_tail : (s_series = s_tail) = False := eq_false (by decide)
@[simp] theorem ne_s_series_s_who : (s_series = s_who) = False := eq_false (by decide)
@[simp] theorem ne_s_series_s_end : (s_series = s_end) = False := eq_false (by decide)
@[simp] theorem ne_s_series_s_found : (s_series = s_found) = False := eq_false (by decide)
@[simp] theorem ne_s_tied_s_series : (s_tied = s_series) = False := eq_false (by decide)
@[simp] theorem ne_s_tied_s_race : (s_tied = s_race) = False := eq_false (by decide)
@[simp] theorem ne_s_tied_s_point : (s_tied = s_point) = False := eq_false (by decide)
@[simp] theorem ne_s_tied_s_pairs : (s_tied = s_pairs) = False := eq_false (by decide)
@[simp] theorem ne_s_tied_s_twos : (s_tied = s_twos) = False := eq_false (by decide)
@[simp] theorem ne_s_tied_s_each : (s_tied = s_each) = False := eq_false (by decide)
@[simp] theorem ne_s_tied_s_keep : (s_tied = s_keep) = False := eq_false (by decide)
@[simp] theorem ne_s_tied_s_on : (s_tied = s_on) = False := eq_false (by decide)
@[simp] theorem ne_s_tied_s_winner : (s_tied = s_winner) = False := eq_false (by decide)
@[simp] theorem ne_s_tied_s_over : (s_tied = s_over) = False := eq_false (by decide)
@[simp] theorem ne_s_tied_s_match : (s_tied = s_match) = False := eq_false (by decide)
@[simp] theorem ne_s_tied_s_no_name : (s_tied = s_no_name) = False := eq_false (by decide)
@[simp] theorem ne_s_tied_s_name : (s_tied = s_name) = False := eq_false (by decide)
@[simp] theorem ne_s_tied_s_text : (s_tied = s_text) = False := eq_false (by decide)
@[simp] theorem ne_s_tied_s_refused : (s_tied = s_refused) = False := eq_false (by decide)
@[simp] theorem ne_s_tied_s_share : (s_tied = s_share) = False := eq_false (by decide)
@[simp] theorem ne_s_tied_s_number : (s_tied = s_number) = False := eq_false (by decide)
@[simp] theorem ne_s_tied_s_nothing : (s_tied = s_nothing) = False := eq_false (by decide)
@[simp] theorem ne_s_tied_s_stuck : (s_tied = s_stuck) = False := eq_false (by decide)
@[simp] theorem ne_s_tied_s_full : (s_tied = s_full) = False := eq_false (by decide)
@[simp] theorem ne_s_tied_s_gift : (s_tied = s_gift) = False := eq_false (by decide)
@[simp] theorem ne_s_tied_s_tree : (s_tied = s_tree) = False := eq_false (by decide)
@[simp] theorem ne_s_tied_s_not_over : (s_tied = s_not_over) = False := eq_false (by decide)
@[simp] theorem ne_s_tied_s_row : (s_tied = s_row) = False := eq_false (by decide)
@[simp] theorem ne_s_tied_s_side : (s_tied = s_side) = False := eq_false (by decide)
@[simp] theorem ne_s_tied_s_form : (s_tied = s_form) = False := eq_false (by decide)
@[simp] theorem ne_s_tied_s_wrong : (s_tied = s_wrong) = False := eq_false (by decide)
@[simp] theorem ne_s_tied_s_ok : (s_tied = s_ok) = False := eq_false (by decide)
@[simp] theorem ne_s_tied_s_server : (s_tied = s_server) = False := eq_false (by decide)
@[simp] theorem ne_s_tied_s_tail : (s_tied = s_tail) = False := eq_false (by decide)
@[simp] theorem ne_s_tied_s_who : (s_tied = s_who) = False := eq_false (by decide)
@[simp] theorem ne_s_tied_s_end : (s_tied = s_end) = False := eq_false (by decide)
@[simp] theorem ne_s_tied_s_found : (s_tied = s_found) = False := eq_false (by decide)
@[simp] theorem ne_s_race_s_series : (s_race = s_series) = False := eq_false (by decide)
@[simp] theorem ne_s_race_s_tied : (s_race = s_tied) = False := eq_false (by decide)
@[simp] theorem ne_s_race_s_point : (s_race = s_point) = False := eq_false (by decide)
@[simp] theorem ne_s_race_s_pairs : (s_race = s_pairs) = False := eq_false (by decide)
@[simp] theorem ne_s_race_s_twos : (s_race = s_twos) = False := eq_false (by decide)
@[simp] theorem ne_s_race_s_each : (s_race = s_each) = False := eq_false (by decide)
@[simp] theorem ne_s_race_s_keep : (s_race = s_keep) = False := eq_false (by decide)
@[simp] theorem ne_s_race_s_on : (s_race = s_on) = False := eq_false (by decide)
@[simp] theorem ne_s_race_s_winner : (s_race = s_winner) = False := eq_false (by decide)
@[simp] theorem ne_s_race_s_over : (s_race = s_over) = False := eq_false (by decide)
@[simp] theorem ne_s_race_s_match : (s_race = s_match) = False := eq_false (by decide)
@[simp] theorem ne_s_race_s_no_name : (s_race = s_no_name) = False := eq_false (by decide)
@[simp] theorem ne_s_race_s_name : (s_race = s_name) = False := eq_false (by decide)
@[simp] theorem ne_s_race_s_text : (s_race = s_text) = False := eq_false (by decide)
@[simp] theorem ne_s_race_s_refused : (s_race = s_refused) = False := eq_false (by decide)
@[simp] theorem ne_s_race_s_share : (s_race = s_share) = False := eq_false (by decide)
@[simp] theorem ne_s_race_s_number : (s_race = s_number) = False := eq_false (by decide)
@[simp] theorem ne_s_race_s_nothing : (s_race = s_nothing) = False := eq_false (by decide)
@[simp] theorem ne_s_race_s_stuck : (s_race = s_stuck) = False := eq_false (by decide)
@[simp] theorem ne_s_race_s_full : (s_race = s_full) = False := eq_false (by decide)
@[simp] theorem ne_s_race_s_gift : (s_race = s_gift) = False := eq_false (by decide)
@[simp] theorem ne_s_race_s_tree : (s_race = s_tree) = False := eq_false (by decide)
@[simp] theorem ne_s_race_s_not_over : (s_race = s_not_over) = False := eq_false (by decide)
@[simp] theorem ne_s_race_s_row : (s_race = s_row) = False := eq_false (by decide)
@[simp] theorem ne_s_race_s_side : (s_race = s_side) = False := eq_false (by decide)
@[simp] theorem ne_s_race_s_form : (s_race = s_form) = False := eq_false (by decide)
@[simp] theorem ne_s_race_s_wrong : (s_race = s_wrong) = False := eq_false (by decide)
@[simp] theorem ne_s_race_s_ok : (s_race = s_ok) = False := eq_false (by decide)
@[simp] theorem ne_s_race_s_server : (s_race = s_server) = False := eq_false (by decide)
@[simp] theorem ne_s_race_s_tail : (s_race = s_tail) = False := eq_false (by decide)
@[simp] theorem ne_s_race_s_who : (s_race = s_who) = False := eq_false (by decide)
@[simp] theorem ne_s_race_s_end : (s_race = s_end) = False := eq_false (by decide)
@[simp] theorem ne_s_race_s_found : (s_race = s_found) = False := eq_false (by decide)
@[simp] theorem ne_s_point_s_series : (s_point = s_series) = False := eq_false (by decide)
@[simp] theorem ne_s_point_s_tied : (s_point = s_tied) = False := eq_false (by decide)
@[simp] theorem ne_s_point_s_race : (s_point = s_race) = False := eq_false (by decide)
@[simp] theorem ne_s_point_s_pairs : (s_point = s_pairs) = False := eq_false (by decide)
@[simp] theorem ne_s_point_s_twos : (s_point = s_twos) = False := eq_false (by decide)
@[simp] theorem ne_s_point_s_each : (s_point = s_each) = False := eq_false (by decide)
@[simp] theorem ne_s_point_s_keep : (s_point = s_keep) = False := eq_false (by decide)
@[simp] theorem ne_s_point_s_on : (s_point = s_on) = False := eq_false (by decide)
@[simp] theorem ne_s_point_s_winner : (s_point = s_winner) = False := eq_false (by decide)
@[simp] theorem ne_s_point_s_over : (s_point = s_over) = False := eq_false (by decide)
@[simp] theorem ne_s_point_s_match : (s_point = s_match) = False := eq_false (by decide)
@[simp] theorem ne_s_point_s_no_name : (s_point = s_no_name) = False := eq_false (by decide)
@[simp] theorem ne_s_point_s_name : (s_point = s_name) = False := eq_false (by decide)
@[simp] theorem ne_s_point_s_text : (s_point = s_text) = False := eq_false (by decide)
@[simp] theorem ne_s_point_s_refused : (s_point = s_refused) = False := eq_false (by decide)
@[simp] theorem ne_s_point_s_share : (s_point = s_share) = False := eq_false (by decide)
@[simp] theorem ne_s_point_s_number : (s_point = s_number) = False := eq_false (by decide)
@[simp] theorem ne_s_point_s_nothing : (s_point = s_nothing) = False := eq_false (by decide)
@[simp] theorem ne_s_point_s_stuck : (s_point = s_stuck) = False := eq_false (by decide)
@[simp] theorem ne_s_point_s_full : (s_point = s_full) = False := eq_false (by decide)
@[simp] theorem ne_s_point_s_gift : (s_point = s_gift) = False := eq_false (by decide)
@[simp] theorem ne_s_point_s_tree : (s_point = s_tree) = False := eq_false (by decide)
@[simp] theorem ne_s_point_s_not_over : (s_point = s_not_over) = False := eq_false (by decide)
@[simp] theorem ne_s_point_s_row : (s_point = s_row) = False := eq_false (by decide)
@[simp] theorem ne_s_point_s_side : (s_point = s_side) = False := eq_false (by decide)
@[simp] theorem ne_s_point_s_form : (s_point = s_form) = False := eq_false (by decide)
@[simp] theorem ne_s_point_s_wrong : (s_point = s_wrong) = False := eq_false (by decide)
@[simp] theorem ne_s_point_s_ok : (s_point = s_ok) = False := eq_false (by decide)
@[simp] theorem ne_s_point_s_server : (s_point = s_server) = False := eq_false (by decide)
@[simp] theorem ne_s_point_s_tail : (s_point = s_tail) = False := eq_false (by decide)
@[simp] theorem ne_s_point_s_who : (s_point = s_who) = False := eq_false (by decide)
@[simp] theorem ne_s_point_s_end : (s_point = s_end) = False := eq_false (by decide)
@[simp] theorem ne_s_point_s_found : (s_point = s_found) = False := eq_false (by decide)
@[simp] theorem ne_s_pairs_s_series : (s_pairs = s_series) = False := eq_false (by decide)
@[simp] theorem ne_s_pairs_s_tied : (s_pairs = s_tied) = False := eq_false (by decide)
@[simp] theorem ne_s_pairs_s_race : (s_pairs = s_race) = False := eq_false (by decide)
@[simp] theorem ne_s_pairs_s_point : (s_pairs = s_point) = False := eq_false (by decide)
@[simp] theorem ne_s_pairs_s_twos : (s_pairs = s_twos) = False := eq_false (by decide)
@[simp] theorem ne_s_pairs_s_each : (s_pairs = s_each) = False := eq_false (by decide)
@[simp] theorem ne_s_pairs_s_keep : (s_pairs = s_keep) = False := eq_false (by decide)
@[simp] theorem ne_s_pairs_s_on : (s_pairs = s_on) = False := eq_false (by decide)
@[simp] theorem ne_s_pairs_s_winner : (s_pairs = s_winner) = False := eq_false (by decide)
@[simp] theorem ne_s_pairs_s_over : (s_pairs = s_over) = False := eq_false (by decide)
@[simp] theorem ne_s_pairs_s_match : (s_pairs = s_match) = False := eq_false (by decide)
@[simp] theorem ne_s_pairs_s_no_name : (s_pairs = s_no_name) = False := eq_false (by decide)
@[simp] theorem ne_s_pairs_s_name : (s_pairs = s_name) = False := eq_false (by decide)
@[simp] theorem ne_s_pairs_s_text : (s_pairs = s_text) = False := eq_false (by decide)
@[simp] theorem ne_s_pairs_s_refused : (s_pairs = s_refused) = False := eq_false (by decide)
@[simp] theorem ne_s_pairs_s_share : (s_pairs = s_share) = False := eq_false (by decide)
@[simp] theorem ne_s_pairs_s_number : (s_pairs = s_number) = False := eq_false (by decide)
@[simp] theorem ne_s_pairs_s_nothing : (s_pairs = s_nothing) = False := eq_false (by decide)
@[simp] theorem ne_s_pairs_s_stuck : (s_pairs = s_stuck) = False := eq_false (by decide)
@[simp] theorem ne_s_pairs_s_full : (s_pairs = s_full) = False := eq_false (by decide)
@[simp] theorem ne_s_pairs_s_gift : (s_pairs = s_gift) = False := eq_false (by decide)
@[simp] theorem ne_s_pairs_s_tree : (s_pairs = s_tree) = False := eq_false (by decide)
@[simp] theorem ne_s_pairs_s_not_over : (s_pairs = s_not_over) = False := eq_false (by decide)
@[simp] theorem ne_s_pairs_s_row : (s_pairs = s_row) = False := eq_false (by decide)
@[simp] theorem ne_s_pairs_s_side : (s_pairs = s_side) = False := eq_false (by decide)
@[simp] theorem ne_s_pairs_s_form : (s_pairs = s_form) = False := eq_false (by decide)
@[simp] theorem ne_s_pairs_s_wrong : (s_pairs = s_wrong) = False := eq_false (by decide)
@[simp] theorem ne_s_pairs_s_ok : (s_pairs = s_ok) = False := eq_false (by decide)
@[simp] theorem ne_s_pairs_s_server : (s_pairs = s_server) = False := eq_false (by decide)
@[simp] theorem ne_s_pairs_s_tail : (s_pairs = s_tail) = False := eq_false (by decide)
@[simp] theorem ne_s_pairs_s_who : (s_pairs = s_who) = False := eq_false (by decide)
@[simp] theorem ne_s_pairs_s_end : (s_pairs = s_end) = False := eq_false (by decide)
@[simp] theorem ne_s_pairs_s_found : (s_pairs = s_found) = False := eq_false (by decide)
@[simp] theorem ne_s_twos_s_series : (s_twos = s_series) = False := eq_false (by decide)
@[simp] theorem ne_s_twos_s_tied : (s_twos = s_tied) = False := eq_false (by decide)
@[simp] theorem ne_s_twos_s_race : (s_twos = s_race) = False := eq_false (by decide)
@[simp] theorem ne_s_twos_s_point : (s_twos = s_point) = False := eq_false (by decide)
@[simp] theorem ne_s_twos_s_pairs : (s_twos = s_pairs) = False := eq_false (by decide)
@[simp] theorem ne_s_twos_s_each : (s_twos = s_each) = False := eq_false (by decide)
@[simp] theorem ne_s_twos_s_keep : (s_twos = s_keep) = False := eq_false (by decide)
@[simp] theorem ne_s_twos_s_on : (s_twos = s_on) = False := eq_false (by decide)
@[simp] theorem ne_s_twos_s_winner : (s_twos = s_winner) = False := eq_false (by decide)
@[simp] theorem ne_s_twos_s_over : (s_twos = s_over) = False := eq_false (by decide)
@[simp] theorem ne_s_twos_s_match : (s_twos = s_match) = False := eq_false (by decide)
@[simp] theorem ne_s_twos_s_no_name : (s_twos = s_no_name) = False := eq_false (by decide)
@[simp] theorem ne_s_twos_s_name : (s_twos = s_name) = False := eq_false (by decide)
@[simp] theorem ne_s_twos_s_text : (s_twos = s_text) = False := eq_false (by decide)
@[simp] theorem ne_s_twos_s_refused : (s_twos = s_refused) = False := eq_false (by decide)
@[simp] theorem ne_s_twos_s_share : (s_twos = s_share) = False := eq_false (by decide)
@[simp] theorem ne_s_twos_s_number : (s_twos = s_number) = False := eq_false (by decide)
@[simp] theorem ne_s_twos_s_nothing : (s_twos = s_nothing) = False := eq_false (by decide)
@[simp] theorem ne_s_twos_s_stuck : (s_twos = s_stuck) = False := eq_false (by decide)
@[simp] theorem ne_s_twos_s_full : (s_twos = s_full) = False := eq_false (by decide)
@[simp] theorem ne_s_twos_s_gift : (s_twos = s_gift) = False := eq_false (by decide)
@[simp] theorem ne_s_twos_s_tree : (s_twos = s_tree) = False := eq_false (by decide)
@[simp] theorem ne_s_twos_s_not_over : (s_twos = s_not_over) = False := eq_false (by decide)
@[simp] theorem ne_s_twos_s_row : (s_twos = s_row) = False := eq_false (by decide)
@[simp] theorem ne_s_twos_s_side : (s_twos = s_side) = False := eq_false (by decide)
@[simp] theorem ne_s_twos_s_form : (s_twos = s_form) = False := eq_false (by decide)
@[simp] theorem ne_s_twos_s_wrong : (s_twos = s_wrong) = False := eq_false (by decide)
@[simp] theorem ne_s_twos_s_ok : (s_twos = s_ok) = False := eq_false (by decide)
@[simp] theorem ne_s_twos_s_server : (s_twos = s_server) = False := eq_false (by decide)
@[simp] theorem ne_s_twos_s_tail : (s_twos = s_tail) = False := eq_false (by decide)
@[simp] theorem ne_s_twos_s_who : (s_twos = s_who) = False := eq_false (by decide)
@[simp] theorem ne_s_twos_s_end : (s_twos = s_end) = False := eq_false (by decide)
@[simp] theorem ne_s_twos_s_found : (s_twos = s_found) = False := eq_false (by decide)
@[simp] theorem ne_s_each_s_series : (s_each = s_series) = False := eq_false (by decide)
@[simp] theorem ne_s_each_s_tied : (s_each = s_tied) = False := eq_false (by decide)
@[simp] theorem ne_s_each_s_race : (s_each = s_race) = False := eq_false (by decide)
@[simp] theorem ne_s_each_s_point : (s_each = s_point) = False := eq_false (by decide)
@[simp] theorem ne_s_each_s_pairs : (s_each = s_pairs) = False := eq_false (by decide)
@[simp] theorem ne_s_each_s_twos : (s_each = s_twos) = False := eq_false (by decide)
@[simp] theorem ne_s_each_s_keep : (s_each = s_keep) = False := eq_false (by decide)
@[simp] theorem ne_s_each_s_on : (s_each = s_on) = False := eq_false (by decide)
@[simp] theorem ne_s_each_s_winner : (s_each = s_winner) = False := eq_false (by decide)
@[simp] theorem ne_s_each_s_over : (s_each = s_over) = False := eq_false (by decide)
@[simp] theorem ne_s_each_s_match : (s_each = s_match) = False := eq_false (by decide)
@[simp] theorem ne_s_each_s_no_name : (s_each = s_no_name) = False := eq_false (by decide)
@[simp] theorem ne_s_each_s_name : (s_each = s_name) = False := eq_false (by decide)
@[simp] theorem ne_s_each_s_text : (s_each = s_text) = False := eq_false (by decide)
@[simp] theorem ne_s_each_s_refused : (s_each = s_refused) = False := eq_false (by decide)
@[simp] theorem ne_s_each_s_share : (s_each = s_share) = False := eq_false (by decide)
@[simp] theorem ne_s_each_s_number : (s_each = s_number) = False := eq_false (by decide)
@[simp] theorem ne_s_each_s_nothing : (s_each = s_nothing) = False := eq_false (by decide)
@[simp] theorem ne_s_each_s_stuck : (s_each = s_stuck) = False := eq_false (by decide)
@[simp] theorem ne_s_each_s_full : (s_each = s_full) = False := eq_false (by decide)
@[simp] theorem ne_s_each_s_gift : (s_each = s_gift) = False := eq_false (by decide)
@[simp] theorem ne_s_each_s_tree : (s_each = s_tree) = False := eq_false (by decide)
@[simp] theorem ne_s_each_s_not_over : (s_each = s_not_over) = False := eq_false (by decide)
@[simp] theorem ne_s_each_s_row : (s_each = s_row) = False := eq_false (by decide)
@[simp] theorem ne_s_each_s_side : (s_each = s_side) = False := eq_false (by decide)
@[simp] theorem ne_s_each_s_form : (s_each = s_form) = False := eq_false (by decide)
@[simp] theorem ne_s_each_s_wrong : (s_each = s_wrong) = False := eq_false (by decide)
@[simp] theorem ne_s_each_s_ok : (s_each = s_ok) = False := eq_false (by decide)
@[simp] theorem ne_s_each_s_server : (s_each = s_server) = False := eq_false (by decide)
@[simp] theorem ne_s_each_s_tail : (s_each = s_tail) = False := eq_false (by decide)
@[simp] theorem ne_s_each_s_who : (s_each = s_who) = False := eq_false (by decide)
@[simp] theorem ne_s_each_s_end : (s_each = s_end) = False := eq_false (by decide)
@[simp] theorem ne_s_each_s_found : (s_each = s_found) = False := eq_false (by decide)
@[simp] theorem ne_s_keep_s_series : (s_keep = s_series) = False := eq_false (by decide)
@[simp] theorem ne_s_keep_s_tied : (s_keep = s_tied) = False := eq_false (by decide)
@[simp] theorem ne_s_keep_s_race : (s_keep = s_race) = False := eq_false (by decide)
@[simp] theorem ne_s_keep_s_point : (s_keep = s_point) = False := eq_false (by decide)
@[simp] theorem ne_s_keep_s_pairs : (s_keep = s_pairs) = False := eq_false (by decide)
@[simp] theorem ne_s_keep_s_twos : (s_keep = s_twos) = False := eq_false (by decide)
@[simp] theorem ne_s_keep_s_each : (s_keep = s_each) = False := eq_false (by decide)
@[simp] theorem ne_s_keep_s_on : (s_keep = s_on) = False := eq_false (by decide)
@[simp] theorem ne_s_keep_s_winner : (s_keep = s_winner) = False := eq_false (by decide)
@[simp] theorem ne_s_keep_s_over : (s_keep = s_over) = False := eq_false (by decide)
@[simp] theorem ne_s_keep_s_match : (s_keep = s_match) = False := eq_false (by decide)
@[simp] theorem ne_s_keep_s_no_name : (s_keep = s_no_name) = False := eq_false (by decide)
@[simp] theorem ne_s_keep_s_name : (s_keep = s_name) = False := eq_false (by decide)
@[simp] theorem ne_s_keep_s_text : (s_keep = s_text) = False := eq_false (by decide)
@[simp] theorem ne_s_keep_s_refused : (s_keep = s_refused) = False := eq_false (by decide)
@[simp] theorem ne_s_keep_s_share : (s_keep = s_share) = False := eq_false (by decide)
@[simp] theorem ne_s_keep_s_number : (s_keep = s_number) = False := eq_false (by decide)
@[simp] theorem ne_s_keep_s_nothing : (s_keep = s_nothing) = False := eq_false (by decide)
@[simp] theorem ne_s_keep_s_stuck : (s_keep = s_stuck) = False := eq_false (by decide)
@[simp] theorem ne_s_keep_s_full : (s_keep = s_full) = False := eq_false (by decide)
@[simp] theorem ne_s_keep_s_gift : (s_keep = s_gift) = False := eq_false (by decide)
@[simp] theorem ne_s_keep_s_tree : (s_keep = s_tree) = False := eq_false (by decide)
@[simp] theorem ne_s_keep_s_not_over : (s_keep = s_not_over) = False := eq_false (by decide)
@[simp] theorem ne_s_keep_s_row : (s_keep = s_row) = False := eq_false (by decide)
@[simp] theorem ne_s_keep_s_side : (s_keep = s_side) = False := eq_false (by decide)
@[simp] theorem ne_s_keep_s_form : (s_keep = s_form) = False := eq_false (by decide)
@[simp] theorem ne_s_keep_s_wrong : (s_keep = s_wrong) = False := eq_false (by decide)
@[simp] theorem ne_s_keep_s_ok : (s_keep = s_ok) = False := eq_false (by decide)
@[simp] theorem ne_s_keep_s_server : (s_keep = s_server) = False := eq_false (by decide)
@[simp] theorem ne_s_keep_s_tail : (s_keep = s_tail) = False := eq_false (by decide)
@[simp] theorem ne_s_keep_s_who : (s_keep = s_who) = False := eq_false (by decide)
@[simp] theorem ne_s_keep_s_end : (s_keep = s_end) = False := eq_false (by decide)
@[simp] theorem ne_s_keep_s_found : (s_keep = s_found) = False := eq_false (by decide)
@[simp] theorem ne_s_on_s_series : (s_on = s_series) = False := eq_false (by decide)
@[simp] theorem ne_s_on_s_tied : (s_on = s_tied) = False := eq_false (by decide)
@[simp] theorem ne_s_on_s_race : (s_on = s_race) = False := eq_false (by decide)
@[simp] theorem ne_s_on_s_point : (s_on = s_point) = False := eq_false (by decide)
@[simp] theorem ne_s_on_s_pairs : (s_on = s_pairs) = False := eq_false (by decide)
@[simp] theorem ne_s_on_s_twos : (s_on = s_twos) = False := eq_false (by decide)
@[simp] theorem ne_s_on_s_each : (s_on = s_each) = False := eq_false (by decide)
@[simp] theorem ne_s_on_s_keep : (s_on = s_keep) = False := eq_false (by decide)
@[simp] theorem ne_s_on_s_winner : (s_on = s_winner) = False := eq_false (by decide)
@[simp] theorem ne_s_on_s_over : (s_on = s_over) = False := eq_false (by decide)
@[simp] theorem ne_s_on_s_match : (s_on = s_match) = False := eq_false (by decide)
@[simp] theorem ne_s_on_s_no_name : (s_on = s_no_name) = False := eq_false (by decide)
@[simp] theorem ne_s_on_s_name : (s_on = s_name) = False := eq_false (by decide)
@[simp] theorem ne_s_on_s_text : (s_on = s_text) = False := eq_false (by decide)
@[simp] theorem ne_s_on_s_refused : (s_on = s_refused) = False := eq_false (by decide)
@[simp] theorem ne_s_on_s_share : (s_on = s_share) = False := eq_false (by decide)
@[simp] theorem ne_s_on_s_number : (s_on = s_number) = False := eq_false (by decide)
@[simp] theorem ne_s_on_s_nothing : (s_on = s_nothing) = False := eq_false (by decide)
@[simp] theorem ne_s_on_s_stuck : (s_on = s_stuck) = False := eq_false (by decide)
@[simp] theorem ne_s_on_s_full : (s_on = s_full) = False := eq_false (by decide)
@[simp] theorem ne_s_on_s_gift : (s_on = s_gift) = False := eq_false (by decide)
@[simp] theorem ne_s_on_s_tree : (s_on = s_tree) = False := eq_false (by decide)
@[simp] theorem ne_s_on_s_not_over : (s_on = s_not_over) = False := eq_false (by decide)
@[simp] theorem ne_s_on_s_row : (s_on = s_row) = False := eq_false (by decide)
@[simp] theorem ne_s_on_s_side : (s_on = s_side) = False := eq_false (by decide)
@[simp] theorem ne_s_on_s_form : (s_on = s_form) = False := eq_false (by decide)
@[simp] theorem ne_s_on_s_wrong : (s_on = s_wrong) = False := eq_false (by decide)
@[simp] theorem ne_s_on_s_ok : (s_on = s_ok) = False := eq_false (by decide)
@[simp] theorem ne_s_on_s_server : (s_on = s_server) = False := eq_false (by decide)
@[simp] theorem ne_s_on_s_tail : (s_on = s_tail) = False := eq_false (by decide)
@[simp] theorem ne_s_on_s_who : (s_on = s_who) = False := eq_false (by decide)
@[simp] theorem ne_s_on_s_end : (s_on = s_end) = False := eq_false (by decide)
@[simp] theorem ne_s_on_s_found : (s_on = s_found) = False := eq_false (by decide)
@[simp] theorem ne_s_winner_s_series : (s_winner = s_series) = False := eq_false (by decide)
@[simp] theorem ne_s_winner_s_tied : (s_winner = s_tied) = False := eq_false (by decide)
@[simp] theorem ne_s_winner_s_race : (s_winner = s_race) = False := eq_false (by decide)
@[simp] theorem ne_s_winner_s_point : (s_winner = s_point) = False := eq_false (by decide)
@[simp] theorem ne_s_winner_s_pairs : (s_winner = s_pairs) = False := eq_false (by decide)
@[simp] theorem ne_s_winner_s_twos : (s_winner = s_twos) = False := eq_false (by decide)
@[simp] theorem ne_s_winner_s_each : (s_winner = s_each) = False := eq_false (by decide)
@[simp] theorem ne_s_winner_s_keep : (s_winner = s_keep) = False := eq_false (by decide)
@[simp] theorem ne_s_winner_s_on : (s_winner = s_on) = False := eq_false (by decide)
@[simp] theorem ne_s_winner_s_over : (s_winner = s_over) = False := eq_false (by decide)
@[simp] theorem ne_s_winner_s_match : (s_winner = s_match) = False := eq_false (by decide)
@[simp] theorem ne_s_winner_s_no_name : (s_winner = s_no_name) = False := eq_false (by decide)
@[simp] theorem ne_s_winner_s_name : (s_winner = s_name) = False := eq_false (by decide)
@[simp] theorem ne_s_winner_s_text : (s_winner = s_text) = False := eq_false (by decide)
@[simp] theorem ne_s_winner_s_refused : (s_winner = s_refused) = False := eq_false (by decide)
@[simp] theorem ne_s_winner_s_share : (s_winner = s_share) = False := eq_false (by decide)
@[simp] theorem ne_s_winner_s_number : (s_winner = s_number) = False := eq_false (by decide)
@[simp] theorem ne_s_winner_s_nothing : (s_winner = s_nothing) = False := eq_false (by decide)
@[simp] theorem ne_s_winner_s_stuck : (s_winner = s_stuck) = False := eq_false (by decide)
@[simp] theorem ne_s_winner_s_full : (s_winner = s_full) = False := eq_false (by decide)
@[simp] theorem ne_s_winner_s_gift : (s_winner = s_gift) = False := eq_false (by decide)
@[simp] theorem ne_s_winner_s_tree : (s_winner = s_tree) = False := eq_false (by decide)
@[simp] theorem ne_s_winner_s_not_over : (s_winner = s_not_over) = False := eq_false (by decide)
@[simp] theorem ne_s_winner_s_row : (s_winner = s_row) = False := eq_false (by decide)
@[simp] theorem ne_s_winner_s_side : (s_winner = s_side) = False := eq_false (by decide)
@[simp] theorem ne_s_winner_s_form : (s_winner = s_form) = False := eq_false (by decide)
@[simp] theorem ne_s_winner_s_wrong : (s_winner = s_wrong) = False := eq_false (by decide)
@[simp] theorem ne_s_winner_s_ok : (s_winner = s_ok) = False := eq_false (by decide)
@[simp] theorem ne_s_winner_s_server : (s_winner = s_server) = False := eq_false (by decide)
@[simp] theorem ne_s_winner_s_tail : (s_winner = s_tail) = False := eq_false (by decide)
@[simp] theorem ne_s_winner_s_who : (s_winner = s_who) = False := eq_false (by decide)
@[simp] theorem ne_s_winner_s_end : (s_winner = s_end) = False := eq_false (by decide)
@[simp] theorem ne_s_winner_s_found : (s_winner = s_found) = False := eq_false (by decide)
@[simp] theorem ne_s_over_s_series : (s_over = s_series) = False := eq_false (by decide)
@[simp] theorem ne_s_over_s_tied : (s_over = s_tied) = False := eq_false (by decide)
@[simp] theorem ne_s_over_s_race : (s_over = s_race) = False := eq_false (by decide)
@[simp] theorem ne_s_over_s_point : (s_over = s_point) = False := eq_false (by decide)
@[simp] theorem ne_s_over_s_pairs : (s_over = s_pairs) = False := eq_false (by decide)
@[simp] theorem ne_s_over_s_twos : (s_over = s_twos) = False := eq_false (by decide)
@[simp] theorem ne_s_over_s_each : (s_over = s_each) = False := eq_false (by decide)
@[simp] theorem ne_s_over_s_keep : (s_over = s_keep) = False := eq_false (by decide)
@[simp] theorem ne_s_over_s_on : (s_over = s_on) = False := eq_false (by decide)
@[simp] theorem ne_s_over_s_winner : (s_over = s_winner) = False := eq_false (by decide)
@[simp] theorem ne_s_over_s_match : (s_over = s_match) = False := eq_false (by decide)
@[simp] theorem ne_s_over_s_no_name : (s_over = s_no_name) = False := eq_false (by decide)
@[simp] theorem ne_s_over_s_name : (s_over = s_name) = False := eq_false (by decide)
@[simp] theorem ne_s_over_s_text : (s_over = s_text) = False := eq_false (by decide)
@[simp] theorem ne_s_over_s_refused : (s_over = s_refused) = False := eq_false (by decide)
@[simp] theorem ne_s_over_s_share : (s_over = s_share) = False := eq_false (by decide)
@[simp] theorem ne_s_over_s_number : (s_over = s_number) = False := eq_false (by decide)
@[simp] theorem ne_s_over_s_nothing : (s_over = s_nothing) = False := eq_false (by decide)
@[simp] theorem ne_s_over_s_stuck : (s_over = s_stuck) = False := eq_false (by decide)
@[simp] theorem ne_s_over_s_full : (s_over = s_full) = False := eq_false (by decide)
@[simp] theorem ne_s_over_s_gift : (s_over = s_gift) = False := eq_false (by decide)
@[simp] theorem ne_s_over_s_tree : (s_over = s_tree) = False := eq_false (by decide)
@[simp] theorem ne_s_over_s_not_over : (s_over = s_not_over) = False := eq_false (by decide)
@[simp] theorem ne_s_over_s_row : (s_over = s_row) = False := eq_false (by decide)
@[simp] theorem ne_s_over_s_side : (s_over = s_side) = False := eq_false (by decide)
@[simp] theorem ne_s_over_s_form : (s_over = s_form) = False := eq_false (by decide)
@[simp] theorem ne_s_over_s_wrong : (s_over = s_wrong) = False := eq_false (by decide)
@[simp] theorem ne_s_over_s_ok : (s_over = s_ok) = False := eq_false (by decide)
@[simp] theorem ne_s_over_s_server : (s_over = s_server) = False := eq_false (by decide)
@[simp] theorem ne_s_over_s_tail : (s_over = s_tail) = False := eq_false (by decide)
@[simp] theorem ne_s_over_s_who : (s_over = s_who) = False := eq_false (by decide)
@[simp] theorem ne_s_over_s_end : (s_over = s_end) = False := eq_false (by decide)
@[simp] theorem ne_s_over_s_found : (s_over = s_found) = False := eq_false (by decide)
@[simp] theorem ne_s_match_s_series : (s_match = s_series) = False := eq_false (by decide)
@[simp] theorem ne_s_match_s_tied : (s_match = s_tied) = False := eq_false (by decide)
@[simp] theorem ne_s_match_s_race : (s_match = s_race) = False := eq_false (by decide)
@[simp] theorem ne_s_match_s_point : (s_match = s_point) = False := eq_false (by decide)
@[simp] theorem ne_s_match_s_pairs : (s_match = s_pairs) = False := eq_false (by decide)
@[simp] theorem ne_s_match_s_twos : (s_match = s_twos) = False := eq_false (by decide)
@[simp] theorem ne_s_match_s_each : (s_match = s_each) = False := eq_false (by decide)
@[simp] theorem ne_s_match_s_keep : (s_match = s_keep) = False := eq_false (by decide)
@[simp] theorem ne_s_match_s_on : (s_match = s_on) = False := eq_false (by decide)
@[simp] theorem ne_s_match_s_winner : (s_match = s_winner) = False := eq_false (by decide)
@[simp] theorem ne_s_match_s_over : (s_match = s_over) = False := eq_false (by decide)
@[simp] theorem ne_s_match_s_no_name : (s_match = s_no_name) = False := eq_false (by decide)
@[simp] theorem ne_s_match_s_name : (s_match = s_name) = False := eq_false (by decide)
@[simp] theorem ne_s_match_s_text : (s_match = s_text) = False := eq_false (by decide)
@[simp] theorem ne_s_match_s_refused : (s_match = s_refused) = False := eq_false (by decide)
@[simp] theorem ne_s_match_s_share : (s_match = s_share) = False := eq_false (by decide)
@[simp] theorem ne_s_match_s_number : (s_match = s_number) = False := eq_false (by decide)
@[simp] theorem ne_s_match_s_nothing : (s_match = s_nothing) = False := eq_false (by decide)
@[simp] theorem ne_s_match_s_stuck : (s_match = s_stuck) = False := eq_false (by decide)
@[simp] theorem ne_s_match_s_full : (s_match = s_full) = False := eq_false (by decide)
@[simp] theorem ne_s_match_s_gift : (s_match = s_gift) = False := eq_false (by decide)
@[simp] theorem ne_s_match_s_tree : (s_match = s_tree) = False := eq_false (by decide)
@[simp] theorem ne_s_match_s_not_over : (s_match = s_not_over) = False := eq_false (by decide)
@[simp] theorem ne_s_match_s_row : (s_match = s_row) = False := eq_false (by decide)
@[simp] theorem ne_s_match_s_side : (s_match = s_side) = False := eq_false (by decide)
@[simp] theorem ne_s_match_s_form : (s_match = s_form) = False := eq_false (by decide)
@[simp] theorem ne_s_match_s_wrong : (s_match = s_wrong) = False := eq_false (by decide)
@[simp] theorem ne_s_match_s_ok : (s_match = s_ok) = False := eq_false (by decide)
@[simp] theorem ne_s_match_s_server : (s_match = s_server) = False := eq_false (by decide)
@[simp] theorem ne_s_match_s_tail : (s_match = s_tail) = False := eq_false (by decide)
@[simp] theorem ne_s_match_s_who : (s_match = s_who) = False := eq_false (by decide)
@[simp] theorem ne_s_match_s_end : (s_match = s_end) = False := eq_false (by decide)
@[simp] theorem ne_s_match_s_found : (s_match = s_found) = False := eq_false (by decide)
@[simp] theorem ne_s_no_name_s_series : (s_no_name = s_series) = False := eq_false (by decide)
@[simp] theorem ne_s_no_name_s_tied : (s_no_name = s_tied) = False := eq_false (by decide)
@[simp] theorem ne_s_no_name_s_race : (s_no_name = s_race) = False := eq_false (by decide)
@[simp] theorem ne_s_no_name_s_point : (s_no_name = s_point) = False := eq_false (by decide)
@[simp] theorem ne_s_no_name_s_pairs : (s_no_name = s_pairs) = False := eq_false (by decide)
@[simp] theorem ne_s_no_name_s_twos : (s_no_name = s_twos) = False := eq_false (by decide)
@[simp] theorem ne_s_no_name_s_each : (s_no_name = s_each) = False := eq_false (by decide)
@[simp] theorem ne_s_no_name_s_keep : (s_no_name = s_keep) = False := eq_false (by decide)
@[simp] theorem ne_s_no_name_s_on : (s_no_name = s_on) = False := eq_false (by decide)
@[simp] theorem ne_s_no_name_s_winner : (s_no_name = s_winner) = False := eq_false (by decide)
@[simp] theorem ne_s_no_name_s_over : (s_no_name = s_over) = False := eq_false (by decide)
@[simp] theorem ne_s_no_name_s_match : (s_no_name = s_match) = False := eq_false (by decide)
@[simp] theorem ne_s_no_name_s_name : (s_no_name = s_name) = False := eq_false (by decide)
@[simp] theorem ne_s_no_name_s_text : (s_no_name = s_text) = False := eq_false (by decide)
@[simp] theorem ne_s_no_name_s_refused : (s_no_name = s_refused) = False := eq_false (by decide)
@[simp] theorem ne_s_no_name_s_share : (s_no_name = s_share) = False := eq_false (by decide)
@[simp] theorem ne_s_no_name_s_number : (s_no_name = s_number) = False := eq_false (by decide)
@[simp] theorem ne_s_no_name_s_nothing : (s_no_name = s_nothing) = False := eq_false (by decide)
@[simp] theorem ne_s_no_name_s_stuck : (s_no_name = s_stuck) = False := eq_false (by decide)
@[simp] theorem ne_s_no_name_s_full : (s_no_name = s_full) = False := eq_false (by decide)
@[simp] theorem ne_s_no_name_s_gift : (s_no_name = s_gift) = False := eq_false (by decide)
@[simp] theorem ne_s_no_name_s_tree : (s_no_name = s_tree) = False := eq_false (by decide)
@[simp] theorem ne_s_no_name_s_not_over : (s_no_name = s_not_over) = False := eq_false (by decide)
@[simp] theorem ne_s_no_name_s_row : (s_no_name = s_row) = False := eq_false (by decide)
@[simp] theorem ne_s_no_name_s_side : (s_no_name = s_side) = False := eq_false (by decide)
@[simp] theorem ne_s_no_name_s_form : (s_no_name = s_form) = False := eq_false (by decide)
@[simp] theorem ne_s_no_name_s_wrong : (s_no_name = s_wrong) = False := eq_false (by decide)
@[simp] theorem ne_s_no_name_s_ok : (s_no_name = s_ok) = False := eq_false (by decide)
@[simp] theorem ne_s_no_name_s_server : (s_no_name = s_server) = False := eq_false (by decide)
@[simp] theorem ne_s_no_name_s_tail : (s_no_name = s_tail) = False := eq_false (by decide)
@[simp] theorem ne_s_no_name_s_who : (s_no_name = s_who) = False := eq_false (by decide)
@[simp] theorem ne_s_no_name_s_end : (s_no_name = s_end) = False := eq_false (by decide)
@[simp] theorem ne_s_no_name_s_found : (s_no_name = s_found) = False := eq_false (by decide)
@[simp] theorem ne_s_name_s_series : (s_name = s_series) = False := eq_false (by decide)
@[simp] theorem ne_s_name_s_tied : (s_name = s_tied) = False := eq_false (by decide)
@[simp] theorem ne_s_name_s_race : (s_name = s_race) = False := eq_false (by decide)
@[simp] theorem ne_s_name_s_point : (s_name = s_point) = False := eq_false (by decide)
@[simp] theorem ne_s_name_s_pairs : (s_name = s_pairs) = False := eq_false (by decide)
@[simp] theorem ne_s_name_s_twos : (s_name = s_twos) = False := eq_false (by decide)
@[simp] theorem ne_s_name_s_each : (s_name = s_each) = False := eq_false (by decide)
@[simp] theorem ne_s_name_s_keep : (s_name = s_keep) = False := eq_false (by decide)
@[simp] theorem ne_s_name_s_on : (s_name = s_on) = False := eq_false (by decide)
@[simp] theorem ne_s_name_s_winner : (s_name = s_winner) = False := eq_false (by decide)
@[simp] theorem ne_s_name_s_over : (s_name = s_over) = False := eq_false (by decide)
@[simp] theorem ne_s_name_s_match : (s_name = s_match) = False := eq_false (by decide)
@[simp] theorem ne_s_name_s_no_name : (s_name = s_no_name) = False := eq_false (by decide)
@[simp] theorem ne_s_name_s_text : (s_name = s_text) = False := eq_false (by decide)
@[simp] theorem ne_s_name_s_refused : (s_name = s_refused) = False := eq_false (by decide)
@[simp] theorem ne_s_name_s_share : (s_name = s_share) = False := eq_false (by decide)
@[simp] theorem ne_s_name_s_number : (s_name = s_number) = False := eq_false (by decide)
@[simp] theorem ne_s_name_s_nothing : (s_name = s_nothing) = False := eq_false (by decide)
@[simp] theorem ne_s_name_s_stuck : (s_name = s_stuck) = False := eq_false (by decide)
@[simp] theorem ne_s_name_s_full : (s_name = s_full) = False := eq_false (by decide)
@[simp] theorem ne_s_name_s_gift : (s_name = s_gift) = False := eq_false (by decide)
@[simp] theorem ne_s_name_s_tree : (s_name = s_tree) = False := eq_false (by decide)
@[simp] theorem ne_s_name_s_not_over : (s_name = s_not_over) = False := eq_false (by decide)
@[simp] theorem ne_s_name_s_row : (s_name = s_row) = False := eq_false (by decide)
@[simp] theorem ne_s_name_s_side : (s_name = s_side) = False := eq_false (by decide)
@[simp] theorem ne_s_name_s_form : (s_name = s_form) = False := eq_false (by decide)
@[simp] theorem ne_s_name_s_wrong : (s_name = s_wrong) = False := eq_false (by decide)
@[simp] theorem ne_s_name_s_ok : (s_name = s_ok) = False := eq_false (by decide)
@[simp] theorem ne_s_name_s_server : (s_name = s_server) = False := eq_false (by decide)
@[simp] theorem ne_s_name_s_tail : (s_name = s_tail) = False := eq_false (by decide)
@[simp] theorem ne_s_name_s_who : (s_name = s_who) = False := eq_false (by decide)
@[simp] theorem ne_s_name_s_end : (s_name = s_end) = False := eq_false (by decide)
@[simp] theorem ne_s_name_s_found : (s_name = s_found) = False := eq_false (by decide)
@[simp] theorem ne_s_text_s_series : (s_text = s_series) = False := eq_false (by decide)
@[simp] theorem ne_s_text_s_tied : (s_text = s_tied) = False := eq_false (by decide)
@[simp] theorem ne_s_text_s_race : (s_text = s_race) = False := eq_false (by decide)
@[simp] theorem ne_s_text_s_point : (s_text = s_point) = False := eq_false (by decide)
@[simp] theorem ne_s_text_s_pairs : (s_text = s_pairs) = False := eq_false (by decide)
@[simp] theorem ne_s_text_s_twos : (s_text = s_twos) = False := eq_false (by decide)
@[simp] theorem ne_s_text_s_each : (s_text = s_each) = False := eq_false (by decide)
@[simp] theorem ne_s_text_s_keep : (s_text = s_keep) = False := eq_false (by decide)
@[simp] theorem ne_s_text_s_on : (s_text = s_on) = False := eq_false (by decide)
@[simp] theorem ne_s_text_s_winner : (s_text = s_winner) = False := eq_false (by decide)
@[simp] theorem ne_s_text_s_over : (s_text = s_over) = False := eq_false (by decide)
@[simp] theorem ne_s_text_s_match : (s_text = s_match) = False := eq_false (by decide)
@[simp] theorem ne_s_text_s_no_name : (s_text = s_no_name) = False := eq_false (by decide)
@[simp] theorem ne_s_text_s_name : (s_text = s_name) = False := eq_false (by decide)
@[simp] theorem ne_s_text_s_refused : (s_text = s_refused) = False := eq_false (by decide)
@[simp] theorem ne_s_text_s_share : (s_text = s_share) = False := eq_false (by decide)
@[simp] theorem ne_s_text_s_number : (s_text = s_number) = False := eq_false (by decide)
@[simp] theorem ne_s_text_s_nothing : (s_text = s_nothing) = False := eq_false (by decide)
@[simp] theorem ne_s_text_s_stuck : (s_text = s_stuck) = False := eq_false (by decide)
@[simp] theorem ne_s_text_s_full : (s_text = s_full) = False := eq_false (by decide)
@[simp] theorem ne_s_text_s_gift : (s_text = s_gift) = False := eq_false (by decide)
@[simp] theorem ne_s_text_s_tree : (s_text = s_tree) = False := eq_false (by decide)
@[simp] theorem ne_s_text_s_not_over : (s_text = s_not_over) = False := eq_false (by decide)
@[simp] theorem ne_s_text_s_row : (s_text = s_row) = False := eq_false (by decide)
@[simp] theorem ne_s_text_s_side : (s_text = s_side) = False := eq_false (by decide)
@[simp] theorem ne_s_text_s_form : (s_text = s_form) = False := eq_false (by decide)
@[simp] theorem ne_s_text_s_wrong : (s_text = s_wrong) = False := eq_false (by decide)
@[simp] theorem ne_s_text_s_ok : (s_text = s_ok) = False := eq_false (by decide)
@[simp] theorem ne_s_text_s_server : (s_text = s_server) = False := eq_false (by decide)
@[simp] theorem ne_s_text_s_tail : (s_text = s_tail) = False := eq_false (by decide)
@[simp] theorem ne_s_text_s_who : (s_text = s_who) = False := eq_false (by decide)
@[simp] theorem ne_s_text_s_end : (s_text = s_end) = False := eq_false (by decide)
@[simp] theorem ne_s_text_s_found : (s_text = s_found) = False := eq_false (by decide)
@[simp] theorem ne_s_refused_s_series : (s_refused = s_series) = False := eq_false (by decide)
@[simp] theorem ne_s_refused_s_tied : (s_refused = s_tied) = False := eq_false (by decide)
@[simp] theorem ne_s_refused_s_race : (s_refused = s_race) = False := eq_false (by decide)
@[simp] theorem ne_s_refused_s_point : (s_refused = s_point) = False := eq_false (by decide)
@[simp] theorem ne_s_refused_s_pairs : (s_refused = s_pairs) = False := eq_false (by decide)
@[simp] theorem ne_s_refused_s_twos : (s_refused = s_twos) = False := eq_false (by decide)
@[simp] theorem ne_s_refused_s_each : (s_refused = s_each) = False := eq_false (by decide)
@[simp] theorem ne_s_refused_s_keep : (s_refused = s_keep) = False := eq_false (by decide)
@[simp] theorem ne_s_refused_s_on : (s_refused = s_on) = False := eq_false (by decide)
@[simp] theorem ne_s_refused_s_winner : (s_refused = s_winner) = False := eq_false (by decide)
@[simp] theorem ne_s_refused_s_over : (s_refused = s_over) = False := eq_false (by decide)
@[simp] theorem ne_s_refused_s_match : (s_refused = s_match) = False := eq_false (by decide)
@[simp] theorem ne_s_refused_s_no_name : (s_refused = s_no_name) = False := eq_false (by decide)
@[simp] theorem ne_s_refused_s_name : (s_refused = s_name) = False := eq_false (by decide)
@[simp] theorem ne_s_refused_s_text : (s_refused = s_text) = False := eq_false (by decide)
@[simp] theorem ne_s_refused_s_share : (s_refused = s_share) = False := eq_false (by decide)
@[simp] theorem ne_s_refused_s_number : (s_refused = s_number) = False := eq_false (by decide)
@[simp] theorem ne_s_refused_s_nothing : (s_refused = s_nothing) = False := eq_false (by decide)
@[simp] theorem ne_s_refused_s_stuck : (s_refused = s_stuck) = False := eq_false (by decide)
@[simp] theorem ne_s_refused_s_full : (s_refused = s_full) = False := eq_false (by decide)
@[simp] theorem ne_s_refused_s_gift : (s_refused = s_gift) = False := eq_false (by decide)
@[simp] theorem ne_s_refused_s_tree : (s_refused = s_tree) = False := eq_false (by decide)
@[simp] theorem ne_s_refused_s_not_over : (s_refused = s_not_over) = False := eq_false (by decide)
@[simp] theorem ne_s_refused_s_row : (s_refused = s_row) = False := eq_false (by decide)
@[simp] theorem ne_s_refused_s_side : (s_refused = s_side) = False := eq_false (by decide)
@[simp] theorem ne_s_refused_s_form : (s_refused = s_form) = False := eq_false (by decide)
@[simp] theorem ne_s_refused_s_wrong : (s_refused = s_wrong) = False := eq_false (by decide)
@[simp] theorem ne_s_refused_s_ok : (s_refused = s_ok) = False := eq_false (by decide)
@[simp] theorem ne_s_refused_s_server : (s_refused = s_server) = False := eq_false (by decide)
@[simp] theorem ne_s_refused_s_tail : (s_refused = s_tail) = False := eq_false (by decide)
@[simp] theorem ne_s_refused_s_who : (s_refused = s_who) = False := eq_false (by decide)
@[simp] theorem ne_s_refused_s_end : (s_refused = s_end) = False := eq_false (by decide)
@[simp] theorem ne_s_refused_s_found : (s_refused = s_found) = False := eq_false (by decide)
@[simp] theorem ne_s_share_s_series : (s_share = s_series) = False := eq_false (by decide)
@[simp] theorem ne_s_share_s_tied : (s_share = s_tied) = False := eq_false (by decide)
@[simp] theorem ne_s_share_s_race : (s_share = s_race) = False := eq_false (by decide)
@[simp] theorem ne_s_share_s_point : (s_share = s_point) = False := eq_false (by decide)
@[simp] theorem ne_s_share_s_pairs : (s_share = s_pairs) = False := eq_false (by decide)
@[simp] theorem ne_s_share_s_twos : (s_share = s_twos) = False := eq_false (by decide)
@[simp] theorem ne_s_share_s_each : (s_share = s_each) = False := eq_false (by decide)
@[simp] theorem ne_s_share_s_keep : (s_share = s_keep) = False := eq_false (by decide)
@[simp] theorem ne_s_share_s_on : (s_share = s_on) = False := eq_false (by decide)
@[simp] theorem ne_s_share_s_winner : (s_share = s_winner) = False := eq_false (by decide)
@[simp] theorem ne_s_share_s_over : (s_share = s_over) = False := eq_false (by decide)
@[simp] theorem ne_s_share_s_match : (s_share = s_match) = False := eq_false (by decide)
@[simp] theorem ne_s_share_s_no_name : (s_share = s_no_name) = False := eq_false (by decide)
@[simp] theorem ne_s_share_s_name : (s_share = s_name) = False := eq_false (by decide)
@[simp] theorem ne_s_share_s_text : (s_share = s_text) = False := eq_false (by decide)
@[simp] theorem ne_s_share_s_refused : (s_share = s_refused) = False := eq_false (by decide)
@[simp] theorem ne_s_share_s_number : (s_share = s_number) = False := eq_false (by decide)
@[simp] theorem ne_s_share_s_nothing : (s_share = s_nothing) = False := eq_false (by decide)
@[simp] theorem ne_s_share_s_stuck : (s_share = s_stuck) = False := eq_false (by decide)
@[simp] theorem ne_s_share_s_full : (s_share = s_full) = False := eq_false (by decide)
@[simp] theorem ne_s_share_s_gift : (s_share = s_gift) = False := eq_false (by decide)
@[simp] theorem ne_s_share_s_tree : (s_share = s_tree) = False := eq_false (by decide)
@[simp] theorem ne_s_share_s_not_over : (s_share = s_not_over) = False := eq_false (by decide)
@[simp] theorem ne_s_share_s_row : (s_share = s_row) = False := eq_false (by decide)
@[simp] theorem ne_s_share_s_side : (s_share = s_side) = False := eq_false (by decide)
@[simp] theorem ne_s_share_s_form : (s_share = s_form) = False := eq_false (by decide)
@[simp] theorem ne_s_share_s_wrong : (s_share = s_wrong) = False := eq_false (by decide)
@[simp] theorem ne_s_share_s_ok : (s_share = s_ok) = False := eq_false (by decide)
@[simp] theorem ne_s_share_s_server : (s_share = s_server) = False := eq_false (by decide)
@[simp] theorem ne_s_share_s_tail : (s_share = s_tail) = False := eq_false (by decide)
@[simp] theorem ne_s_share_s_who : (s_share = s_who) = False := eq_false (by decide)
@[simp] theorem ne_s_share_s_end : (s_share = s_end) = False := eq_false (by decide)
@[simp] theorem ne_s_share_s_found : (s_share = s_found) = False := eq_false (by decide)
@[simp] theorem ne_s_number_s_series : (s_number = s_series) = False := eq_false (by decide)
@[simp] theorem ne_s_number_s_tied : (s_number = s_tied) = False := eq_false (by decide)
@[simp] theorem ne_s_number_s_race : (s_number = s_race) = False := eq_false (by decide)
@[simp] theorem ne_s_number_s_point : (s_number = s_point) = False := eq_false (by decide)
@[simp] theorem ne_s_number_s_pairs : (s_number = s_pairs) = False := eq_false (by decide)
@[simp] theorem ne_s_number_s_twos : (s_number = s_twos) = False := eq_false (by decide)
@[simp] theorem ne_s_number_s_each : (s_number = s_each) = False := eq_false (by decide)
@[simp] theorem ne_s_number_s_keep : (s_number = s_keep) = False := eq_false (by decide)
@[simp] theorem ne_s_number_s_on : (s_number = s_on) = False := eq_false (by decide)
@[simp] theorem ne_s_number_s_winner : (s_number = s_winner) = False := eq_false (by decide)
@[simp] theorem ne_s_number_s_over : (s_number = s_over) = False := eq_false (by decide)
@[simp] theorem ne_s_number_s_match : (s_number = s_match) = False := eq_false (by decide)
@[simp] theorem ne_s_number_s_no_name : (s_number = s_no_name) = False := eq_false (by decide)
@[simp] theorem ne_s_number_s_name : (s_number = s_name) = False := eq_false (by decide)
@[simp] theorem ne_s_number_s_text : (s_number = s_text) = False := eq_false (by decide)
@[simp] theorem ne_s_number_s_refused : (s_number = s_refused) = False := eq_false (by decide)
@[simp] theorem ne_s_number_s_share : (s_number = s_share) = False := eq_false (by decide)
@[simp] theorem ne_s_number_s_nothing : (s_number = s_nothing) = False := eq_false (by decide)
@[simp] theorem ne_s_number_s_stuck : (s_number = s_stuck) = False := eq_false (by decide)
@[simp] theorem ne_s_number_s_full : (s_number = s_full) = False := eq_false (by decide)
@[simp] theorem ne_s_number_s_gift : (s_number = s_gift) = False := eq_false (by decide)
@[simp] theorem ne_s_number_s_tree : (s_number = s_tree) = False := eq_false (by decide)
@[simp] theorem ne_s_number_s_not_over : (s_number = s_not_over) = False := eq_false (by decide)
@[simp] theorem ne_s_number_s_row : (s_number = s_row) = False := eq_false (by decide)
@[simp] theorem ne_s_number_s_side : (s_number = s_side) = False := eq_false (by decide)
@[simp] theorem ne_s_number_s_form : (s_number = s_form) = False := eq_false (by decide)
@[simp] theorem ne_s_number_s_wrong : (s_number = s_wrong) = False := eq_false (by decide)
@[simp] theorem ne_s_number_s_ok : (s_number = s_ok) = False := eq_false (by decide)
@[simp] theorem ne_s_number_s_server : (s_number = s_server) = False := eq_false (by decide)
@[simp] theorem ne_s_number_s_tail : (s_number = s_tail) = False := eq_false (by decide)
@[simp] theorem ne_s_number_s_who : (s_number = s_who) = False := eq_false (by decide)
@[simp] theorem ne_s_number_s_end : (s_number = s_end) = False := eq_false (by decide)
@[simp] theorem ne_s_number_s_found : (s_number = s_found) = False := eq_false (by decide)
@[simp] theorem ne_s_nothing_s_series : (s_nothing = s_series) = False := eq_false (by decide)
@[simp] theorem ne_s_nothing_s_tied : (s_nothing = s_tied) = False := eq_false (by decide)
@[simp] theorem ne_s_nothing_s_race : (s_nothing = s_race) = False := eq_false (by decide)
@[simp] theorem ne_s_nothing_s_point : (s_nothing = s_point) = False := eq_false (by decide)
@[simp] theorem ne_s_nothing_s_pairs : (s_nothing = s_pairs) = False := eq_false (by decide)
@[simp] theorem ne_s_nothing_s_twos : (s_nothing = s_twos) = False := eq_false (by decide)
@[simp] theorem ne_s_nothing_s_each : (s_nothing = s_each) = False := eq_false (by decide)
@[simp] theorem ne_s_nothing_s_keep : (s_nothing = s_keep) = False := eq_false (by decide)
@[simp] theorem ne_s_nothing_s_on : (s_nothing = s_on) = False := eq_false (by decide)
@[simp] theorem ne_s_nothing_s_winner : (s_nothing = s_winner) = False := eq_false (by decide)
@[simp] theorem ne_s_nothing_s_over : (s_nothing = s_over) = False := eq_false (by decide)
@[simp] theorem ne_s_nothing_s_match : (s_nothing = s_match) = False := eq_false (by decide)
@[simp] theorem ne_s_nothing_s_no_name : (s_nothing = s_no_name) = False := eq_false (by decide)
@[simp] theorem ne_s_nothing_s_name : (s_nothing = s_name) = False := eq_false (by decide)
@[simp] theorem ne_s_nothing_s_text : (s_nothing = s_text) = False := eq_false (by decide)
@[simp] theorem ne_s_nothing_s_refused : (s_nothing = s_refused) = False := eq_false (by decide)
@[simp] theorem ne_s_nothing_s_share : (s_nothing = s_share) = False := eq_false (by decide)
@[simp] theorem ne_s_nothing_s_number : (s_nothing = s_number) = False := eq_false (by decide)
@[simp] theorem ne_s_nothing_s_stuck : (s_nothing = s_stuck) = False := eq_false (by decide)
@[simp] theorem ne_s_nothing_s_full : (s_nothing = s_full) = False := eq_false (by decide)
@[simp] theorem ne_s_nothing_s_gift : (s_nothing = s_gift) = False := eq_false (by decide)
@[simp] theorem ne_s_nothing_s_tree : (s_nothing = s_tree) = False := eq_false (by decide)
@[simp] theorem ne_s_nothing_s_not_over : (s_nothing = s_not_over) = False := eq_false (by decide)
@[simp] theorem ne_s_nothing_s_row : (s_nothing = s_row) = False := eq_false (by decide)
@[simp] theorem ne_s_nothing_s_side : (s_nothing = s_side) = False := eq_false (by decide)
@[simp] theorem ne_s_nothing_s_form : (s_nothing = s_form) = False := eq_false (by decide)
@[simp] theorem ne_s_nothing_s_wrong : (s_nothing = s_wrong) = False := eq_false (by decide)
@[simp] theorem ne_s_nothing_s_ok : (s_nothing = s_ok) = False := eq_false (by decide)
@[simp] theorem ne_s_nothing_s_server : (s_nothing = s_server) = False := eq_false (by decide)
@[simp] theorem ne_s_nothing_s_tail : (s_nothing = s_tail) = False := eq_false (by decide)
@[simp] theorem ne_s_nothing_s_who : (s_nothing = s_who) = False := eq_false (by decide)
@[simp] theorem ne_s_nothing_s_end : (s_nothing = s_end) = False := eq_false (by decide)
@[simp] theorem ne_s_nothing_s_found : (s_nothing = s_found) = False := eq_false (by decide)
@[simp] theorem ne_s_stuck_s_series : (s_stuck = s_series) = False := eq_false (by decide)
@[simp] theorem ne_s_stuck_s_tied : (s_stuck = s_tied) = False := eq_false (by decide)
@[simp] theorem ne_s_stuck_s_race : (s_stuck = s_race) = False := eq_false (by decide)
@[simp] theorem ne_s_stuck_s_point : (s_stuck = s_point) = False := eq_false (by decide)
@[simp] theorem ne_s_stuck_s_pairs : (s_stuck = s_pairs) = False := eq_false (by decide)
@[simp] theorem ne_s_stuck_s_twos : (s_stuck = s_twos) = False := eq_false (by decide)
@[simp] theorem ne_s_stuck_s_each : (s_stuck = s_each) = False := eq_false (by decide)
@[simp] theorem ne_s_stuck_s_keep : (s_stuck = s_keep) = False := eq_false (by decide)
@[simp] theorem ne_s_stuck_s_on : (s_stuck = s_on) = False := eq_false (by decide)
@[simp] theorem ne_s_stuck_s_winner : (s_stuck = s_winner) = False := eq_false (by decide)
@[simp] theorem ne_s_stuck_s_over : (s_stuck = s_over) = False := eq_false (by decide)
@[simp] theorem ne_s_stuck_s_match : (s_stuck = s_match) = False := eq_false (by decide)
@[simp] theorem ne_s_stuck_s_no_name : (s_stuck = s_no_name) = False := eq_false (by decide)
@[simp] theorem ne_s_stuck_s_name : (s_stuck = s_name) = False := eq_false (by decide)
@[simp] theorem ne_s_stuck_s_text : (s_stuck = s_text) = False := eq_false (by decide)
@[simp] theorem ne_s_stuck_s_refused : (s_stuck = s_refused) = False := eq_false (by decide)
@[simp] theorem ne_s_stuck_s_share : (s_stuck = s_share) = False := eq_false (by decide)
@[simp] theorem ne_s_stuck_s_number : (s_stuck = s_number) = False := eq_false (by decide)
@[simp] theorem ne_s_stuck_s_nothing : (s_stuck = s_nothing) = False := eq_false (by decide)
@[simp] theorem ne_s_stuck_s_full : (s_stuck = s_full) = False := eq_false (by decide)
@[simp] theorem ne_s_stuck_s_gift : (s_stuck = s_gift) = False := eq_false (by decide)
@[simp] theorem ne_s_stuck_s_tree : (s_stuck = s_tree) = False := eq_false (by decide)
@[simp] theorem ne_s_stuck_s_not_over : (s_stuck = s_not_over) = False := eq_false (by decide)
@[simp] theorem ne_s_stuck_s_row : (s_stuck = s_row) = False := eq_false (by decide)
@[simp] theorem ne_s_stuck_s_side : (s_stuck = s_side) = False := eq_false (by decide)
@[simp] theorem ne_s_stuck_s_form : (s_stuck = s_form) = False := eq_false (by decide)
@[simp] theorem ne_s_stuck_s_wrong : (s_stuck = s_wrong) = False := eq_false (by decide)
@[simp] theorem ne_s_stuck_s_ok : (s_stuck = s_ok) = False := eq_false (by decide)
@[simp] theorem ne_s_stuck_s_server : (s_stuck = s_server) = False := eq_false (by decide)
@[simp] theorem ne_s_stuck_s_tail : (s_stuck = s_tail) = False := eq_false (by decide)
@[simp] theorem ne_s_stuck_s_who : (s_stuck = s_who) = False := eq_false (by decide)
@[simp] theorem ne_s_stuck_s_end : (s_stuck = s_end) = False := eq_false (by decide)
@[simp] theorem ne_s_stuck_s_found : (s_stuck = s_found) = False := eq_false (by decide)
@[simp] theorem ne_s_full_s_series : (s_full = s_series) = False := eq_false (by decide)
@[simp] theorem ne_s_full_s_tied : (s_full = s_tied) = False := eq_false (by decide)
@[simp] theorem ne_s_full_s_race : (s_full = s_race) = False := eq_false (by decide)
@[simp] theorem ne_s_full_s_point : (s_full = s_point) = False := eq_false (by decide)
@[simp] theorem ne_s_full_s_pairs : (s_full = s_pairs) = False := eq_false (by decide)
@[simp] theorem ne_s_full_s_twos : (s_full = s_twos) = False := eq_false (by decide)
@[simp] theorem ne_s_full_s_each : (s_full = s_each) = False := eq_false (by decide)
@[simp] theorem ne_s_full_s_keep : (s_full = s_keep) = False := eq_false (by decide)
@[simp] theorem ne_s_full_s_on : (s_full = s_on) = False := eq_false (by decide)
@[simp] theorem ne_s_full_s_winner : (s_full = s_winner) = False := eq_false (by decide)
@[simp] theorem ne_s_full_s_over : (s_full = s_over) = False := eq_false (by decide)
@[simp] theorem ne_s_full_s_match : (s_full = s_match) = False := eq_false (by decide)
@[simp] theorem ne_s_full_s_no_name : (s_full = s_no_name) = False := eq_false (by decide)
@[simp] theorem ne_s_full_s_name : (s_full = s_name) = False := eq_false (by decide)
@[simp] theorem ne_s_full_s_text : (s_full = s_text) = False := eq_false (by decide)
@[simp] theorem ne_s_full_s_refused : (s_full = s_refused) = False := eq_false (by decide)
@[simp] theorem ne_s_full_s_share : (s_full = s_share) = False := eq_false (by decide)
@[simp] theorem ne_s_full_s_number : (s_full = s_number) = False := eq_false (by decide)
@[simp] theorem ne_s_full_s_nothing : (s_full = s_nothing) = False := eq_false (by decide)
@[simp] theorem ne_s_full_s_stuck : (s_full = s_stuck) = False := eq_false (by decide)
@[simp] theorem ne_s_full_s_gift : (s_full = s_gift) = False := eq_false (by decide)
@[simp] theorem ne_s_full_s_tree : (s_full = s_tree) = False := eq_false (by decide)
@[simp] theorem ne_s_full_s_not_over : (s_full = s_not_over) = False := eq_false (by decide)
@[simp] theorem ne_s_full_s_row : (s_full = s_row) = False := eq_false (by decide)
@[simp] theorem ne_s_full_s_side : (s_full = s_side) = False := eq_false (by decide)
@[simp] theorem ne_s_full_s_form : (s_full = s_form) = False := eq_false (by decide)
@[simp] theorem ne_s_full_s_wrong : (s_full = s_wrong) = False := eq_false (by decide)
@[simp] theorem ne_s_full_s_ok : (s_full = s_ok) = False := eq_false (by decide)
@[simp] theorem ne_s_full_s_server : (s_full = s_server) = False := eq_false (by decide)
@[simp] theorem ne_s_full_s_tail : (s_full = s_tail) = False := eq_false (by decide)
@[simp] theorem ne_s_full_s_who : (s_full = s_who) = False := eq_false (by decide)
@[simp] theorem ne_s_full_s_end : (s_full = s_end) = False := eq_false (by decide)
@[simp] theorem ne_s_full_s_found : (s_full = s_found) = False := eq_false (by decide)
@[simp] theorem ne_s_gift_s_series : (s_gift = s_series) = False := eq_false (by decide)
@[simp] theorem ne_s_gift_s_tied : (s_gift = s_tied) = False := eq_false (by decide)
@[simp] theorem ne_s_gift_s_race : (s_gift = s_race) = False := eq_false (by decide)
@[simp] theorem ne_s_gift_s_point : (s_gift = s_point) = False := eq_false (by decide)
@[simp] theorem ne_s_gift_s_pairs : (s_gift = s_pairs) = False := eq_false (by decide)
@[simp] theorem ne_s_gift_s_twos : (s_gift = s_twos) = False := eq_false (by decide)
@[simp] theorem ne_s_gift_s_each : (s_gift = s_each) = False := eq_false (by decide)
@[simp] theorem ne_s_gift_s_keep : (s_gift = s_keep) = False := eq_false (by decide)
@[simp] theorem ne_s_gift_s_on : (s_gift = s_on) = False := eq_false (by decide)
@[simp] theorem ne_s_gift_s_winner : (s_gift = s_winner) = False := eq_false (by decide)
@[simp] theorem ne_s_gift_s_over : (s_gift = s_over) = False := eq_false (by decide)
@[simp] theorem ne_s_gift_s_match : (s_gift = s_match) = False := eq_false (by decide)
@[simp] theorem ne_s_gift_s_no_name : (s_gift = s_no_name) = False := eq_false (by decide)
@[simp] theorem ne_s_gift_s_name : (s_gift = s_name) = False := eq_false (by decide)
@[simp] theorem ne_s_gift_s_text : (s_gift = s_text) = False := eq_false (by decide)
@[simp] theorem ne_s_gift_s_refused : (s_gift = s_refused) = False := eq_false (by decide)
@[simp] theorem ne_s_gift_s_share : (s_gift = s_share) = False := eq_false (by decide)
@[simp] theorem ne_s_gift_s_number : (s_gift = s_number) = False := eq_false (by decide)
@[simp] theorem ne_s_gift_s_nothing : (s_gift = s_nothing) = False := eq_false (by decide)
@[simp] theorem ne_s_gift_s_stuck : (s_gift = s_stuck) = False := eq_false (by decide)
@[simp] theorem ne_s_gift_s_full : (s_gift = s_full) = False := eq_false (by decide)
@[simp] theorem ne_s_gift_s_tree : (s_gift = s_tree) = False := eq_false (by decide)
@[simp] theorem ne_s_gift_s_not_over : (s_gift = s_not_over) = False := eq_false (by decide)
@[simp] theorem ne_s_gift_s_row : (s_gift = s_row) = False := eq_false (by decide)
@[simp] theorem ne_s_gift_s_side : (s_gift = s_side) = False := eq_false (by decide)
@[simp] theorem ne_s_gift_s_form : (s_gift = s_form) = False := eq_false (by decide)
@[simp] theorem ne_s_gift_s_wrong : (s_gift = s_wrong) = False := eq_false (by decide)
@[simp] theorem ne_s_gift_s_ok : (s_gift = s_ok) = False := eq_false (by decide)
@[simp] theorem ne_s_gift_s_server : (s_gift = s_server) = False := eq_false (by decide)
@[simp] theorem ne_s_gift_s_tail : (s_gift = s_tail) = False := eq_false (by decide)
@[simp] theorem ne_s_gift_s_who : (s_gift = s_who) = False := eq_false (by decide)
@[simp] theorem ne_s_gift_s_end : (s_gift = s_end) = False := eq_false (by decide)
@[simp] theorem ne_s_gift_s_found : (s_gift = s_found) = False := eq_false (by decide)
@[simp] theorem ne_s_tree_s_series : (s_tree = s_series) = False := eq_false (by decide)
@[simp] theorem ne_s_tree_s_tied : (s_tree = s_tied) = False := eq_false (by decide)
@[simp] theorem ne_s_tree_s_race : (s_tree = s_race) = False := eq_false (by decide)
@[simp] theorem ne_s_tree_s_point : (s_tree = s_point) = False := eq_false (by decide)
@[simp] theorem ne_s_tree_s_pairs : (s_tree = s_pairs) = False := eq_false (by decide)
@[simp] theorem ne_s_tree_s_twos : (s_tree = s_twos) = False := eq_false (by decide)
@[simp] theorem ne_s_tree_s_each : (s_tree = s_each) = False := eq_false (by decide)
@[simp] theorem ne_s_tree_s_keep : (s_tree = s_keep) = False := eq_false (by decide)
@[simp] theorem ne_s_tree_s_on : (s_tree = s_on) = False := eq_false (by decide)
@[simp] theorem ne_s_tree_s_winner : (s_tree = s_winner) = False := eq_false (by decide)
@[simp] theorem ne_s_tree_s_over : (s_tree = s_over) = False := eq_false (by decide)
@[simp] theorem ne_s_tree_s_match : (s_tree = s_match) = False := eq_false (by decide)
@[simp] theorem ne_s_tree_s_no_name : (s_tree = s_no_name) = False := eq_false (by decide)
@[simp] theorem ne_s_tree_s_name : (s_tree = s_name) = False := eq_false (by decide)
@[simp] theorem ne_s_tree_s_text : (s_tree = s_text) = False := eq_false (by decide)
@[simp] theorem ne_s_tree_s_refused : (s_tree = s_refused) = False := eq_false (by decide)
@[simp] theorem ne_s_tree_s_share : (s_tree = s_share) = False := eq_false (by decide)
@[simp] theorem ne_s_tree_s_number : (s_tree = s_number) = False := eq_false (by decide)
@[simp] theorem ne_s_tree_s_nothing : (s_tree = s_nothing) = False := eq_false (by decide)
@[simp] theorem ne_s_tree_s_stuck : (s_tree = s_stuck) = False := eq_false (by decide)
@[simp] theorem ne_s_tree_s_full : (s_tree = s_full) = False := eq_false (by decide)
@[simp] theorem ne_s_tree_s_gift : (s_tree = s_gift) = False := eq_false (by decide)
@[simp] theorem ne_s_tree_s_not_over : (s_tree = s_not_over) = False := eq_false (by decide)
@[simp] theorem ne_s_tree_s_row : (s_tree = s_row) = False := eq_false (by decide)
@[simp] theorem ne_s_tree_s_side : (s_tree = s_side) = False := eq_false (by decide)
@[simp] theorem ne_s_tree_s_form : (s_tree = s_form) = False := eq_false (by decide)
@[simp] theorem ne_s_tree_s_wrong : (s_tree = s_wrong) = False := eq_false (by decide)
@[simp] theorem ne_s_tree_s_ok : (s_tree = s_ok) = False := eq_false (by decide)
@[simp] theorem ne_s_tree_s_server : (s_tree = s_server) = False := eq_false (by decide)
@[simp] theorem ne_s_tree_s_tail : (s_tree = s_tail) = False := eq_false (by decide)
@[simp] theorem ne_s_tree_s_who : (s_tree = s_who) = False := eq_false (by decide)
@[simp] theorem ne_s_tree_s_end : (s_tree = s_end) = False := eq_false (by decide)
@[simp] theorem ne_s_tree_s_found : (s_tree = s_found) = False := eq_false (by decide)
@[simp] theorem ne_s_not_over_s_series : (s_not_over = s_series) = False := eq_false (by decide)
@[simp] theorem ne_s_not_over_s_tied : (s_not_over = s_tied) = False := eq_false (by decide)
@[simp] theorem ne_s_not_over_s_race : (s_not_over = s_race) = False := eq_false (by decide)
@[simp] theorem ne_s_not_over_s_point : (s_not_over = s_point) = False := eq_false (by decide)
@[simp] theorem ne_s_not_over_s_pairs : (s_not_over = s_pairs) = False := eq_false (by decide)
@[simp] theorem ne_s_not_over_s_twos : (s_not_over = s_twos) = False := eq_false (by decide)
@[simp] theorem ne_s_not_over_s_each : (s_not_over = s_each) = False := eq_false (by decide)
@[simp] theorem ne_s_not_over_s_keep : (s_not_over = s_keep) = False := eq_false (by decide)
@[simp] theorem ne_s_not_over_s_on : (s_not_over = s_on) = False := eq_false (by decide)
@[simp] theorem ne_s_not_over_s_winner : (s_not_over = s_winner) = False := eq_false (by decide)
@[simp] theorem ne_s_not_over_s_over : (s_not_over = s_over) = False := eq_false (by decide)
@[simp] theorem ne_s_not_over_s_match : (s_not_over = s_match) = False := eq_false (by decide)
@[simp] theorem ne_s_not_over_s_no_name : (s_not_over = s_no_name) = False := eq_false (by decide)
@[simp] theorem ne_s_not_over_s_name : (s_not_over = s_name) = False := eq_false (by decide)
@[simp] theorem ne_s_not_over_s_text : (s_not_over = s_text) = False := eq_false (by decide)
@[simp] theorem ne_s_not_over_s_refused : (s_not_over = s_refused) = False := eq_false (by decide)
@[simp] theorem ne_s_not_over_s_share : (s_not_over = s_share) = False := eq_false (by decide)
@[simp] theorem ne_s_not_over_s_number : (s_not_over = s_number) = False := eq_false (by decide)
@[simp] theorem ne_s_not_over_s_nothing : (s_not_over = s_nothing) = False := eq_false (by decide)
@[simp] theorem ne_s_not_over_s_stuck : (s_not_over = s_stuck) = False := eq_false (by decide)
@[simp] theorem ne_s_not_over_s_full : (s_not_over = s_full) = False := eq_false (by decide)
@[simp] theorem ne_s_not_over_s_gift : (s_not_over = s_gift) = False := eq_false (by decide)
@[simp] theorem ne_s_not_over_s_tree : (s_not_over = s_tree) = False := eq_false (by decide)
@[simp] theorem ne_s_not_over_s_row : (s_not_over = s_row) = False := eq_false (by decide)
@[simp] theorem ne_s_not_over_s_side : (s_not_over = s_side) = False := eq_false (by decide)
@[simp] theorem ne_s_not_over_s_form : (s_not_over = s_form) = False := eq_false (by decide)
@[simp] theorem ne_s_not_over_s_wrong : (s_not_over = s_wrong) = False := eq_false (by decide)
@[simp] theorem ne_s_not_over_s_ok : (s_not_over = s_ok) = False := eq_false (by decide)
@[simp] theorem ne_s_not_over_s_server : (s_not_over = s_server) = False := eq_false (by decide)
@[simp] theorem ne_s_not_over_s_tail : (s_not_over = s_tail) = False := eq_false (by decide)
@[simp] theorem ne_s_not_over_s_who : (s_not_over = s_who) = False := eq_false (by decide)
@[simp] theorem ne_s_not_over_s_end : (s_not_over = s_end) = False := eq_false (by decide)
@[simp] theorem ne_s_not_over_s_found : (s_not_over = s_found) = False := eq_false (by decide)
@[simp] theorem ne_s_row_s_series : (s_row = s_series) = False := eq_false (by decide)
@[simp] theorem ne_s_row_s_tied : (s_row = s_tied) = False := eq_false (by decide)
@[simp] theorem ne_s_row_s_race : (s_row = s_race) = False := eq_false (by decide)
@[simp] theorem ne_s_row_s_point : (s_row = s_point) = False := eq_false (by decide)
@[simp] theorem ne_s_row_s_pairs : (s_row = s_pairs) = False := eq_false (by decide)
@[simp] theorem ne_s_row_s_twos : (s_row = s_twos) = False := eq_false (by decide)
@[simp] theorem ne_s_row_s_each : (s_row = s_each) = False := eq_false (by decide)
@[simp] theorem ne_s_row_s_keep : (s_row = s_keep) = False := eq_false (by decide)
@[simp] theorem ne_s_row_s_on : (s_row = s_on) = False := eq_false (by decide)
@[simp] theorem ne_s_row_s_winner : (s_row = s_winner) = False := eq_false (by decide)
@[simp] theorem ne_s_row_s_over : (s_row = s_over) = False := eq_false (by decide)
@[simp] theorem ne_s_row_s_match : (s_row = s_match) = False := eq_false (by decide)
@[simp] theorem ne_s_row_s_no_name : (s_row = s_no_name) = False := eq_false (by decide)
@[simp] theorem ne_s_row_s_name : (s_row = s_name) = False := eq_false (by decide)
@[simp] theorem ne_s_row_s_text : (s_row = s_text) = False := eq_false (by decide)
@[simp] theorem ne_s_row_s_refused : (s_row = s_refused) = False := eq_false (by decide)
@[simp] theorem ne_s_row_s_share : (s_row = s_share) = False := eq_false (by decide)
@[simp] theorem ne_s_row_s_number : (s_row = s_number) = False := eq_false (by decide)
@[simp] theorem ne_s_row_s_nothing : (s_row = s_nothing) = False := eq_false (by decide)
@[simp] theorem ne_s_row_s_stuck : (s_row = s_stuck) = False := eq_false (by decide)
@[simp] theorem ne_s_row_s_full : (s_row = s_full) = False := eq_false (by decide)
@[simp] theorem ne_s_row_s_gift : (s_row = s_gift) = False := eq_false (by decide)
@[simp] theorem ne_s_row_s_tree : (s_row = s_tree) = False := eq_false (by decide)
@[simp] theorem ne_s_row_s_not_over : (s_row = s_not_over) = False := eq_false (by decide)
@[simp] theorem ne_s_row_s_side : (s_row = s_side) = False := eq_false (by decide)
@[simp] theorem ne_s_row_s_form : (s_row = s_form) = False := eq_false (by decide)
@[simp] theorem ne_s_row_s_wrong : (s_row = s_wrong) = False := eq_false (by decide)
@[simp] theorem ne_s_row_s_ok : (s_row = s_ok) = False := eq_false (by decide)
@[simp] theorem ne_s_row_s_server : (s_row = s_server) = False := eq_false (by decide)
@[simp] theorem ne_s_row_s_tail : (s_row = s_tail) = False := eq_false (by decide)
@[simp] theorem ne_s_row_s_who : (s_row = s_who) = False := eq_false (by decide)
@[simp] theorem ne_s_row_s_end : (s_row = s_end) = False := eq_false (by decide)
@[simp] theorem ne_s_row_s_found : (s_row = s_found) = False := eq_false (by decide)
@[simp] theorem ne_s_side_s_series : (s_side = s_series) = False := eq_false (by decide)
@[simp] theorem ne_s_side_s_tied : (s_side = s_tied) = False := eq_false (by decide)
@[simp] theorem ne_s_side_s_race : (s_side = s_race) = False := eq_false (by decide)
@[simp] theorem ne_s_side_s_point : (s_side = s_point) = False := eq_false (by decide)
@[simp] theorem ne_s_side_s_pairs : (s_side = s_pairs) = False := eq_false (by decide)
@[simp] theorem ne_s_side_s_twos : (s_side = s_twos) = False := eq_false (by decide)
@[simp] theorem ne_s_side_s_each : (s_side = s_each) = False := eq_false (by decide)
@[simp] theorem ne_s_side_s_keep : (s_side = s_keep) = False := eq_false (by decide)
@[simp] theorem ne_s_side_s_on : (s_side = s_on) = False := eq_false (by decide)
@[simp] theorem ne_s_side_s_winner : (s_side = s_winner) = False := eq_false (by decide)
@[simp] theorem ne_s_side_s_over : (s_side = s_over) = False := eq_false (by decide)
@[simp] theorem ne_s_side_s_match : (s_side = s_match) = False := eq_false (by decide)
@[simp] theorem ne_s_side_s_no_name : (s_side = s_no_name) = False := eq_false (by decide)
@[simp] theorem ne_s_side_s_name : (s_side = s_name) = False := eq_false (by decide)
@[simp] theorem ne_s_side_s_text : (s_side = s_text) = False := eq_false (by decide)
@[simp] theorem ne_s_side_s_refused : (s_side = s_refused) = False := eq_false (by decide)
@[simp] theorem ne_s_side_s_share : (s_side = s_share) = False := eq_false (by decide)
@[simp] theorem ne_s_side_s_number : (s_side = s_number) = False := eq_false (by decide)
@[simp] theorem ne_s_side_s_nothing : (s_side = s_nothing) = False := eq_false (by decide)
@[simp] theorem ne_s_side_s_stuck : (s_side = s_stuck) = False := eq_false (by decide)
@[simp] theorem ne_s_side_s_full : (s_side = s_full) = False := eq_false (by decide)
@[simp] theorem ne_s_side_s_gift : (s_side = s_gift) = False := eq_false (by decide)
@[simp] theorem ne_s_side_s_tree : (s_side = s_tree) = False := eq_false (by decide)
@[simp] theorem ne_s_side_s_not_over : (s_side = s_not_over) = False := eq_false (by decide)
@[simp] theorem ne_s_side_s_row : (s_side = s_row) = False := eq_false (by decide)
@[simp] theorem ne_s_side_s_form : (s_side = s_form) = False := eq_false (by decide)
@[simp] theorem ne_s_side_s_wrong : (s_side = s_wrong) = False := eq_false (by decide)
@[simp] theorem ne_s_side_s_ok : (s_side = s_ok) = False := eq_false (by decide)
@[simp] theorem ne_s_side_s_server : (s_side = s_server) = False := eq_false (by decide)
@[simp] theorem ne_s_side_s_tail : (s_side = s_tail) = False := eq_false (by decide)
@[simp] theorem ne_s_side_s_who : (s_side = s_who) = False := eq_false (by decide)
@[simp] theorem ne_s_side_s_end : (s_side = s_end) = False := eq_false (by decide)
@[simp] theorem ne_s_side_s_found : (s_side = s_found) = False := eq_false (by decide)
@[simp] theorem ne_s_form_s_series : (s_form = s_series) = False := eq_false (by decide)
@[simp] theorem ne_s_form_s_tied : (s_form = s_tied) = False := eq_false (by decide)
@[simp] theorem ne_s_form_s_race : (s_form = s_race) = False := eq_false (by decide)
@[simp] theorem ne_s_form_s_point : (s_form = s_point) = False := eq_false (by decide)
@[simp] theorem ne_s_form_s_pairs : (s_form = s_pairs) = False := eq_false (by decide)
@[simp] theorem ne_s_form_s_twos : (s_form = s_twos) = False := eq_false (by decide)
@[simp] theorem ne_s_form_s_each : (s_form = s_each) = False := eq_false (by decide)
@[simp] theorem ne_s_form_s_keep : (s_form = s_keep) = False := eq_false (by decide)
@[simp] theorem ne_s_form_s_on : (s_form = s_on) = False := eq_false (by decide)
@[simp] theorem ne_s_form_s_winner : (s_form = s_winner) = False := eq_false (by decide)
@[simp] theorem ne_s_form_s_over : (s_form = s_over) = False := eq_false (by decide)
@[simp] theorem ne_s_form_s_match : (s_form = s_match) = False := eq_false (by decide)
@[simp] theorem ne_s_form_s_no_name : (s_form = s_no_name) = False := eq_false (by decide)
@[simp] theorem ne_s_form_s_name : (s_form = s_name) = False := eq_false (by decide)
@[simp] theorem ne_s_form_s_text : (s_form = s_text) = False := eq_false (by decide)
@[simp] theorem ne_s_form_s_refused : (s_form = s_refused) = False := eq_false (by decide)
@[simp] theorem ne_s_form_s_share : (s_form = s_share) = False := eq_false (by decide)
@[simp] theorem ne_s_form_s_number : (s_form = s_number) = False := eq_false (by decide)
@[simp] theorem ne_s_form_s_nothing : (s_form = s_nothing) = False := eq_false (by decide)
@[simp] theorem ne_s_form_s_stuck : (s_form = s_stuck) = False := eq_false (by decide)
@[simp] theorem ne_s_form_s_full : (s_form = s_full) = False := eq_false (by decide)
@[simp] theorem ne_s_form_s_gift : (s_form = s_gift) = False := eq_false (by decide)
@[simp] theorem ne_s_form_s_tree : (s_form = s_tree) = False := eq_false (by decide)
@[simp] theorem ne_s_form_s_not_over : (s_form = s_not_over) = False := eq_false (by decide)
@[simp] theorem ne_s_form_s_row : (s_form = s_row) = False := eq_false (by decide)
@[simp] theorem ne_s_form_s_side : (s_form = s_side) = False := eq_false (by decide)
@[simp] theorem ne_s_form_s_wrong : (s_form = s_wrong) = False := eq_false (by decide)
@[simp] theorem ne_s_form_s_ok : (s_form = s_ok) = False := eq_false (by decide)
@[simp] theorem ne_s_form_s_server : (s_form = s_server) = False := eq_false (by decide)
@[simp] theorem ne_s_form_s_tail : (s_form = s_tail) = False := eq_false (by decide)
@[simp] theorem ne_s_form_s_who : (s_form = s_who) = False := eq_false (by decide)
@[simp] theorem ne_s_form_s_end : (s_form = s_end) = False := eq_false (by decide)
@[simp] theorem ne_s_form_s_found : (s_form = s_found) = False := eq_false (by decide)
@[simp] theorem ne_s_wrong_s_series : (s_wrong = s_series) = False := eq_false (by decide)
@[simp] theorem ne_s_wrong_s_tied : (s_wrong = s_tied) = False := eq_false (by decide)
@[simp] theorem ne_s_wrong_s_race : (s_wrong = s_race) = False := eq_false (by decide)
@[simp] theorem ne_s_wrong_s_point : (s_wrong = s_point) = False := eq_false (by decide)
@[simp] theorem ne_s_wrong_s_pairs : (s_wrong = s_pairs) = False := eq_false (by decide)
@[simp] theorem ne_s_wrong_s_twos : (s_wrong = s_twos) = False := eq_false (by decide)
@[simp] theorem ne_s_wrong_s_each : (s_wrong = s_each) = False := eq_false (by decide)
@[simp] theorem ne_s_wrong_s_keep : (s_wrong = s_keep) = False := eq_false (by decide)
@[simp] theorem ne_s_wrong_s_on : (s_wrong = s_on) = False := eq_false (by decide)
@[simp] theorem ne_s_wrong_s_winner : (s_wrong = s_winner) = False := eq_false (by decide)
@[simp] theorem ne_s_wrong_s_over : (s_wrong = s_over) = False := eq_false (by decide)
@[simp] theorem ne_s_wrong_s_match : (s_wrong = s_match) = False := eq_false (by decide)
@[simp] theorem ne_s_wrong_s_no_name : (s_wrong = s_no_name) = False := eq_false (by decide)
@[simp] theorem ne_s_wrong_s_name : (s_wrong = s_name) = False := eq_false (by decide)
@[simp] theorem ne_s_wrong_s_text : (s_wrong = s_text) = False := eq_false (by decide)
@[simp] theorem ne_s_wrong_s_refused : (s_wrong = s_refused) = False := eq_false (by decide)
@[simp] theorem ne_s_wrong_s_share : (s_wrong = s_share) = False := eq_false (by decide)
@[simp] theorem ne_s_wrong_s_number : (s_wrong = s_number) = False := eq_false (by decide)
@[simp] theorem ne_s_wrong_s_nothing : (s_wrong = s_nothing) = False := eq_false (by decide)
@[simp] theorem ne_s_wrong_s_stuck : (s_wrong = s_stuck) = False := eq_false (by decide)
@[simp] theorem ne_s_wrong_s_full : (s_wrong = s_full) = False := eq_false (by decide)
@[simp] theorem ne_s_wrong_s_gift : (s_wrong = s_gift) = False := eq_false (by decide)
@[simp] theorem ne_s_wrong_s_tree : (s_wrong = s_tree) = False := eq_false (by decide)
@[simp] theorem ne_s_wrong_s_not_over : (s_wrong = s_not_over) = False := eq_false (by decide)
@[simp] theorem ne_s_wrong_s_row : (s_wrong = s_row) = False := eq_false (by decide)
@[simp] theorem ne_s_wrong_s_side : (s_wrong = s_side) = False := eq_false (by decide)
@[simp] theorem ne_s_wrong_s_form : (s_wrong = s_form) = False := eq_false (by decide)
@[simp] theorem ne_s_wrong_s_ok : (s_wrong = s_ok) = False := eq_false (by decide)
@[simp] theorem ne_s_wrong_s_server : (s_wrong = s_server) = False := eq_false (by decide)
@[simp] theorem ne_s_wrong_s_tail : (s_wrong = s_tail) = False := eq_false (by decide)
@[simp] theorem ne_s_wrong_s_who : (s_wrong = s_who) = False := eq_false (by decide)
@[simp] theorem ne_s_wrong_s_end : (s_wrong = s_end) = False := eq_false (by decide)
@[simp] theorem ne_s_wrong_s_found : (s_wrong = s_found) = False := eq_false (by decide)
@[simp] theorem ne_s_ok_s_series : (s_ok = s_series) = False := eq_false (by decide)
@[simp] theorem ne_s_ok_s_tied : (s_ok = s_tied) = False := eq_false (by decide)
@[simp] theorem ne_s_ok_s_race : (s_ok = s_race) = False := eq_false (by decide)
@[simp] theorem ne_s_ok_s_point : (s_ok = s_point) = False := eq_false (by decide)
@[simp] theorem ne_s_ok_s_pairs : (s_ok = s_pairs) = False := eq_false (by decide)
@[simp] theorem ne_s_ok_s_twos : (s_ok = s_twos) = False := eq_false (by decide)
@[simp] theorem ne_s_ok_s_each : (s_ok = s_each) = False := eq_false (by decide)
@[simp] theorem ne_s_ok_s_keep : (s_ok = s_keep) = False := eq_false (by decide)
@[simp] theorem ne_s_ok_s_on : (s_ok = s_on) = False := eq_false (by decide)
@[simp] theorem ne_s_ok_s_winner : (s_ok = s_winner) = False := eq_false (by decide)
@[simp] theorem ne_s_ok_s_over : (s_ok = s_over) = False := eq_false (by decide)
@[simp] theorem ne_s_ok_s_match : (s_ok = s_match) = False := eq_false (by decide)
@[simp] theorem ne_s_ok_s_no_name : (s_ok = s_no_name) = False := eq_false (by decide)
@[simp] theorem ne_s_ok_s_name : (s_ok = s_name) = False := eq_false (by decide)
@[simp] theorem ne_s_ok_s_text : (s_ok = s_text) = False := eq_false (by decide)
@[simp] theorem ne_s_ok_s_refused : (s_ok = s_refused) = False := eq_false (by decide)
@[simp] theorem ne_s_ok_s_share : (s_ok = s_share) = False := eq_false (by decide)
@[simp] theorem ne_s_ok_s_number : (s_ok = s_number) = False := eq_false (by decide)
@[simp] theorem ne_s_ok_s_nothing : (s_ok = s_nothing) = False := eq_false (by decide)
@[simp] theorem ne_s_ok_s_stuck : (s_ok = s_stuck) = False := eq_false (by decide)
@[simp] theorem ne_s_ok_s_full : (s_ok = s_full) = False := eq_false (by decide)
@[simp] theorem ne_s_ok_s_gift : (s_ok = s_gift) = False := eq_false (by decide)
@[simp] theorem ne_s_ok_s_tree : (s_ok = s_tree) = False := eq_false (by decide)
@[simp] theorem ne_s_ok_s_not_over : (s_ok = s_not_over) = False := eq_false (by decide)
@[simp] theorem ne_s_ok_s_row : (s_ok = s_row) = False := eq_false (by decide)
@[simp] theorem ne_s_ok_s_side : (s_ok = s_side) = False := eq_false (by decide)
@[simp] theorem ne_s_ok_s_form : (s_ok = s_form) = False := eq_false (by decide)
@[simp] theorem ne_s_ok_s_wrong : (s_ok = s_wrong) = False := eq_false (by decide)
@[simp] theorem ne_s_ok_s_server : (s_ok = s_server) = False := eq_false (by decide)
@[simp] theorem ne_s_ok_s_tail : (s_ok = s_tail) = False := eq_false (by decide)
@[simp] theorem ne_s_ok_s_who : (s_ok = s_who) = False := eq_false (by decide)
@[simp] theorem ne_s_ok_s_end : (s_ok = s_end) = False := eq_false (by decide)
@[simp] theorem ne_s_ok_s_found : (s_ok = s_found) = False := eq_false (by decide)
@[simp] theorem ne_s_server_s_series : (s_server = s_series) = False := eq_false (by decide)
@[simp] theorem ne_s_server_s_tied : (s_server = s_tied) = False := eq_false (by decide)
@[simp] theorem ne_s_server_s_race : (s_server = s_race) = False := eq_false (by decide)
@[simp] theorem ne_s_server_s_point : (s_server = s_point) = False := eq_false (by decide)
@[simp] theorem ne_s_server_s_pairs : (s_server = s_pairs) = False := eq_false (by decide)
@[simp] theorem ne_s_server_s_twos : (s_server = s_twos) = False := eq_false (by decide)
@[simp] theorem ne_s_server_s_each : (s_server = s_each) = False := eq_false (by decide)
@[simp] theorem ne_s_server_s_keep : (s_server = s_keep) = False := eq_false (by decide)
@[simp] theorem ne_s_server_s_on : (s_server = s_on) = False := eq_false (by decide)
@[simp] theorem ne_s_server_s_winner : (s_server = s_winner) = False := eq_false (by decide)
@[simp] theorem ne_s_server_s_over : (s_server = s_over) = False := eq_false (by decide)
@[simp] theorem ne_s_server_s_match : (s_server = s_match) = False := eq_false (by decide)
@[simp] theorem ne_s_server_s_no_name : (s_server = s_no_name) = False := eq_false (by decide)
@[simp] theorem ne_s_server_s_name : (s_server = s_name) = False := eq_false (by decide)
@[simp] theorem ne_s_server_s_text : (s_server = s_text) = False := eq_false (by decide)
@[simp] theorem ne_s_server_s_refused : (s_server = s_refused) = False := eq_false (by decide)
@[simp] theorem ne_s_server_s_share : (s_server = s_share) = False := eq_false (by decide)
@[simp] theorem ne_s_server_s_number : (s_server = s_number) = False := eq_false (by decide)
@[simp] theorem ne_s_server_s_nothing : (s_server = s_nothing) = False := eq_false (by decide)
@[simp] theorem ne_s_server_s_stuck : (s_server = s_stuck) = False := eq_false (by decide)
@[simp] theorem ne_s_server_s_full : (s_server = s_full) = False := eq_false (by decide)
@[simp] theorem ne_s_server_s_gift : (s_server = s_gift) = False := eq_false (by decide)
@[simp] theorem ne_s_server_s_tree : (s_server = s_tree) = False := eq_false (by decide)
@[simp] theorem ne_s_server_s_not_over : (s_server = s_not_over) = False := eq_false (by decide)
@[simp] theorem ne_s_server_s_row : (s_server = s_row) = False := eq_false (by decide)
@[simp] theorem ne_s_server_s_side : (s_server = s_side) = False := eq_false (by decide)
@[simp] theorem ne_s_server_s_form : (s_server = s_form) = False := eq_false (by decide)
@[simp] theorem ne_s_server_s_wrong : (s_server = s_wrong) = False := eq_false (by decide)
@[simp] theorem ne_s_server_s_ok : (s_server = s_ok) = False := eq_false (by decide)
@[simp] theorem ne_s_server_s_tail : (s_server = s_tail) = False := eq_false (by decide)
@[simp] theorem ne_s_server_s_who : (s_server = s_who) = False := eq_false (by decide)
@[simp] theorem ne_s_server_s_end : (s_server = s_end) = False := eq_false (by decide)
@[simp] theorem ne_s_server_s_found : (s_server = s_found) = False := eq_false (by decide)
@[simp] theorem ne_s_tail_s_series : (s_tail = s_series) = False := eq_false (by decide)
@[simp] theorem ne_s_tail_s_tied : (s_tail = s_tied) = False := eq_false (by decide)
@[simp] theorem ne_s_tail_s_race : (s_tail = s_race) = False := eq_false (by decide)
@[simp] theorem ne_s_tail_s_point : (s_tail = s_point) = False := eq_false (by decide)
@[simp] theorem ne_s_tail_s_pairs : (s_tail = s_pairs) = False := eq_false (by decide)
@[simp] theorem ne_s_tail_s_twos : (s_tail = s_twos) = False := eq_false (by decide)
@[simp] theorem ne_s_tail_s_each : (s_tail = s_each) = False := eq_false (by decide)
@[simp] theorem ne_s_tail_s_keep : (s_tail = s_keep) = False := eq_false (by decide)
@[simp] theorem ne_s_tail_s_on : (s_tail = s_on) = False := eq_false (by decide)
@[simp] theorem ne_s_tail_s_winner : (s_tail = s_winner) = False := eq_false (by decide)
@[simp] theorem ne_s_tail_s_over : (s_tail = s_over) = False := eq_false (by decide)
@[simp] theorem ne_s_tail_s_match : (s_tail = s_match) = False := eq_false (by decide)
@[simp] theorem ne_s_tail_s_no_name : (s_tail = s_no_name) = False := eq_false (by decide)
@[simp] theorem ne_s_tail_s_name : (s_tail = s_name) = False := eq_false (by decide)
@[simp] theorem ne_s_tail_s_text : (s_tail = s_text) = False := eq_false (by decide)
@[simp] theorem ne_s_tail_s_refused : (s_tail = s_refused) = False := eq_false (by decide)
@[simp] theorem ne_s_tail_s_share : (s_tail = s_share) = False := eq_false (by decide)
@[simp] theorem ne_s_tail_s_number : (s_tail = s_number) = False := eq_false (by decide)
@[simp] theorem ne_s_tail_s_nothing : (s_tail = s_nothing) = False := eq_false (by decide)
@[simp] theorem ne_s_tail_s_stuck : (s_tail = s_stuck) = False := eq_false (by decide)
@[simp] theorem ne_s_tail_s_full : (s_tail = s_full) = False := eq_false (by decide)
@[simp] theorem ne_s_tail_s_gift : (s_tail = s_gift) = False := eq_false (by decide)
@[simp] theorem ne_s_tail_s_tree : (s_tail = s_tree) = False := eq_false (by decide)
@[simp] theorem ne_s_tail_s_not_over : (s_tail = s_not_over) = False := eq_false (by decide)
@[simp] theorem ne_s_tail_s_row : (s_tail = s_row) = False := eq_false (by decide)
@[simp] theorem ne_s_tail_s_side : (s_tail = s_side) = False := eq_false (by decide)
@[simp] theorem ne_s_tail_s_form : (s_tail = s_form) = False := eq_false (by decide)
@[simp] theorem ne_s_tail_s_wrong : (s_tail = s_wrong) = False := eq_false (by decide)
@[simp] theorem ne_s_tail_s_ok : (s_tail = s_ok) = False := eq_false (by decide)
@[simp] theorem ne_s_tail_s_server : (s_tail = s_server) = False := eq_false (by decide)
@[simp] theorem ne_s_tail_s_who : (s_tail = s_who) = False := eq_false (by decide)
@[simp] theorem ne_s_tail_s_end : (s_tail = s_end) = False := eq_false (by decide)
@[simp] theorem ne_s_tail_s_found : (s_tail = s_found) = False := eq_false (by decide)
@[simp] theorem ne_s_who_s_series : (s_who = s_series) = False := eq_false (by decide)
@[simp] theorem ne_s_who_s_tied : (s_who = s_tied) = False := eq_false (by decide)
@[simp] theorem ne_s_who_s_race : (s_who = s_race) = False := eq_false (by decide)
@[simp] theorem ne_s_who_s_point : (s_who = s_point) = False := eq_false (by decide)
@[simp] theorem ne_s_who_s_pairs : (s_who = s_pairs) = False := eq_false (by decide)
@[simp] theorem ne_s_who_s_twos : (s_who = s_twos) = False := eq_false (by decide)
@[simp] theorem ne_s_who_s_each : (s_who = s_each) = False := eq_false (by decide)
@[simp] theorem ne_s_who_s_keep : (s_who = s_keep) = False := eq_false (by decide)
@[simp] theorem ne_s_who_s_on : (s_who = s_on) = False := eq_false (by decide)
@[simp] theorem ne_s_who_s_winner : (s_who = s_winner) = False := eq_false (by decide)
@[simp] theorem ne_s_who_s_over : (s_who = s_over) = False := eq_false (by decide)
@[simp] theorem ne_s_who_s_match : (s_who = s_match) = False := eq_false (by decide)
@[simp] theorem ne_s_who_s_no_name : (s_who = s_no_name) = False := eq_false (by decide)
@[simp] theorem ne_s_who_s_name : (s_who = s_name) = False := eq_false (by decide)
@[simp] theorem ne_s_who_s_text : (s_who = s_text) = False := eq_false (by decide)
@[simp] theorem ne_s_who_s_refused : (s_who = s_refused) = False := eq_false (by decide)
@[simp] theorem ne_s_who_s_share : (s_who = s_share) = False := eq_false (by decide)
@[simp] theorem ne_s_who_s_number : (s_who = s_number) = False := eq_false (by decide)
@[simp] theorem ne_s_who_s_nothing : (s_who = s_nothing) = False := eq_false (by decide)
@[simp] theorem ne_s_who_s_stuck : (s_who = s_stuck) = False := eq_false (by decide)
@[simp] theorem ne_s_who_s_full : (s_who = s_full) = False := eq_false (by decide)
@[simp] theorem ne_s_who_s_gift : (s_who = s_gift) = False := eq_false (by decide)
@[simp] theorem ne_s_who_s_tree : (s_who = s_tree) = False := eq_false (by decide)
@[simp] theorem ne_s_who_s_not_over : (s_who = s_not_over) = False := eq_false (by decide)
@[simp] theorem ne_s_who_s_row : (s_who = s_row) = False := eq_false (by decide)
@[simp] theorem ne_s_who_s_side : (s_who = s_side) = False := eq_false (by decide)
@[simp] theorem ne_s_who_s_form : (s_who = s_form) = False := eq_false (by decide)
@[simp] theorem ne_s_who_s_wrong : (s_who = s_wrong) = False := eq_false (by decide)
@[simp] theorem ne_s_who_s_ok : (s_who = s_ok) = False := eq_false (by decide)
@[simp] theorem ne_s_who_s_server : (s_who = s_server) = False := eq_false (by decide)
@[simp] theorem ne_s_who_s_tail : (s_who = s_tail) = False := eq_false (by decide)
@[simp] theorem ne_s_who_s_end : (s_who = s_end) = False := eq_false (by decide)
@[simp] theorem ne_s_who_s_found : (s_who = s_found) = False := eq_false (by decide)
@[simp] theorem ne_s_end_s_series : (s_end = s_series) = False := eq_false (by decide)
@[simp] theorem ne_s_end_s_tied : (s_end = s_tied) = False := eq_false (by decide)
@[simp] theorem ne_s_end_s_race : (s_end = s_race) = False := eq_false (by decide)
@[simp] theorem ne_s_end_s_point : (s_end = s_point) = False := eq_false (by decide)
@[simp] theorem ne_s_end_s_pairs : (s_end = s_pairs) = False := eq_false (by decide)
@[simp] theorem ne_s_end_s_twos : (s_end = s_twos) = False := eq_false (by decide)
@[simp] theorem ne_s_end_s_each : (s_end = s_each) = False := eq_false (by decide)
@[simp] theorem ne_s_end_s_keep : (s_end = s_keep) = False := eq_false (by decide)
@[simp] theorem ne_s_end_s_on : (s_end = s_on) = False := eq_false (by decide)
@[simp] theorem ne_s_end_s_winner : (s_end = s_winner) = False := eq_false (by decide)
@[simp] theorem ne_s_end_s_over : (s_end = s_over) = False := eq_false (by decide)
@[simp] theorem ne_s_end_s_match : (s_end = s_match) = False := eq_false (by decide)
@[simp] theorem ne_s_end_s_no_name : (s_end = s_no_name) = False := eq_false (by decide)
@[simp] theorem ne_s_end_s_name : (s_end = s_name) = False := eq_false (by decide)
@[simp] theorem ne_s_end_s_text : (s_end = s_text) = False := eq_false (by decide)
@[simp] theorem ne_s_end_s_refused : (s_end = s_refused) = False := eq_false (by decide)
@[simp] theorem ne_s_end_s_share : (s_end = s_share) = False := eq_false (by decide)
@[simp] theorem ne_s_end_s_number : (s_end = s_number) = False := eq_false (by decide)
@[simp] theorem ne_s_end_s_nothing : (s_end = s_nothing) = False := eq_false (by decide)
@[simp] theorem ne_s_end_s_stuck : (s_end = s_stuck) = False := eq_false (by decide)
@[simp] theorem ne_s_end_s_full : (s_end = s_full) = False := eq_false (by decide)
@[simp] theorem ne_s_end_s_gift : (s_end = s_gift) = False := eq_false (by decide)
@[simp] theorem ne_s_end_s_tree : (s_end = s_tree) = False := eq_false (by decide)
@[simp] theorem ne_s_end_s_not_over : (s_end = s_not_over) = False := eq_false (by decide)
@[simp] theorem ne_s_end_s_row : (s_end = s_row) = False := eq_false (by decide)
@[simp] theorem ne_s_end_s_side : (s_end = s_side) = False := eq_false (by decide)
@[simp] theorem ne_s_end_s_form : (s_end = s_form) = False := eq_false (by decide)
@[simp] theorem ne_s_end_s_wrong : (s_end = s_wrong) = False := eq_false (by decide)
@[simp] theorem ne_s_end_s_ok : (s_end = s_ok) = False := eq_false (by decide)
@[simp] theorem ne_s_end_s_server : (s_end = s_server) = False := eq_false (by decide)
@[simp] theorem ne_s_end_s_tail : (s_end = s_tail) = False := eq_false (by decide)
@[simp] theorem ne_s_end_s_who : (s_end = s_who) = False := eq_false (by decide)
@[simp] theorem ne_s_end_s_found : (s_end = s_found) = False := eq_false (by decide)
@[simp] theorem ne_s_found_s_series : (s_found = s_series) = False := eq_false (by decide)
@[simp] theorem ne_s_found_s_tied : (s_found = s_tied) = False := eq_false (by decide)
@[simp] theorem ne_s_found_s_race : (s_found = s_race) = False := eq_false (by decide)
@[simp] theorem ne_s_found_s_point : (s_found = s_point) = False := eq_false (by decide)
@[simp] theorem ne_s_found_s_pairs : (s_found = s_pairs) = False := eq_false (by decide)
@[simp] theorem ne_s_found_s_twos : (s_found = s_twos) = False := eq_false (by decide)
@[simp] theorem ne_s_found_s_each : (s_found = s_each) = False := eq_false (by decide)
@[simp] theorem ne_s_found_s_keep : (s_found = s_keep) = False := eq_false (by decide)
@[simp] theorem ne_s_found_s_on : (s_found = s_on) = False := eq_false (by decide)
@[simp] theorem ne_s_found_s_winner : (s_found = s_winner) = False := eq_false (by decide)
@[simp] theorem ne_s_found_s_over : (s_found = s_over) = False := eq_false (by decide)
@[simp] theorem ne_s_found_s_match : (s_found = s_match) = False := eq_false (by decide)
@[simp] theorem ne_s_found_s_no_name : (s_found = s_no_name) = False := eq_false (by decide)
@[simp] theorem ne_s_found_s_name : (s_found = s_name) = False := eq_false (by decide)
@[simp] theorem ne_s_found_s_text : (s_found = s_text) = False := eq_false (by decide)
@[simp] theorem ne_s_found_s_refused : (s_found = s_refused) = False := eq_false (by decide)
@[simp] theorem ne_s_found_s_share : (s_found = s_share) = False := eq_false (by decide)
@[simp] theorem ne_s_found_s_number : (s_found = s_number) = False := eq_false (by decide)
@[simp] theorem ne_s_found_s_nothing : (s_found = s_nothing) = False := eq_false (by decide)
@[simp] theorem ne_s_found_s_stuck : (s_found = s_stuck) = False := eq_false (by decide)
@[simp] theorem ne_s_found_s_full : (s_found = s_full) = False := eq_false (by decide)
@[simp] theorem ne_s_found_s_gift : (s_found = s_gift) = False := eq_false (by decide)
@[simp] theorem ne_s_found_s_tree : (s_found = s_tree) = False := eq_false (by decide)
@[simp] theorem ne_s_found_s_not_over : (s_found = s_not_over) = False := eq_false (by decide)
@[simp] theorem ne_s_found_s_row : (s_found = s_row) = False := eq_false (by decide)
@[simp] theorem ne_s_found_s_side : (s_found = s_side) = False := eq_false (by decide)
@[simp] theorem ne_s_found_s_form : (s_found = s_form) = False := eq_false (by decide)
@[simp] theorem ne_s_found_s_wrong : (s_found = s_wrong) = False := eq_false (by decide)
@[simp] theorem ne_s_found_s_ok : (s_found = s_ok) = False := eq_false (by decide)
@[simp] theorem ne_s_found_s_server : (s_found = s_server) = False := eq_false (by decide)
@[simp] theorem ne_s_found_s_tail : (s_found = s_tail) = False := eq_false (by decide)
@[simp] theorem ne_s_found_s_who : (s_found = s_who) = False := eq_false (by decide)
@[simp] theorem ne_s_found_s_end : (s_found = s_end) = False := eq_false (by decide)

end Ev
section
namespace Lw
open PySem PySem.Spec PyProof.Rows L2 Ev
def T : Tab := [(f_is_number, c_is_number), (f_is_turn, c_is_turn), (f_is_race, c_is_race), (f_is_tied, c_is_tied), (f_is_series, c_is_series), (f_is_shape, c_is_shape), (f_parts, c_parts), (f_size_of, c_size_of), (f_is_form, c_is_form), (f_look_form, c_look_form), (f_look_side, c_look_side), (f_look_row, c_look_row), (f_inner_at, c_inner_at), (f_begun, c_begun), (f_won_by, c_won_by), (f_served, c_served), (f_decided, c_decided), (f_behind, c_behind), (f_lifted, c_lifted), (f_pushed, c_pushed), (f_pairs, c_pairs), (f_server_of, c_server_of), (f_winner_of, c_winner_of), (f_played, c_played), (f_state_of, c_state_of), (f_standing, c_standing), (f_winner, c_winner), (f_server, c_server), (f__law_cell, c__law_cell), (f__law_mix, c__law_mix), (f__law_draw, c__law_draw), (f__law_pick, c__law_pick), (f__law_refusal, c__law_refusal), (f__law_turn, c__law_turn), (f__law_form, c__law_form), (f__law_size, c__law_size), (f__law_sized, c__law_sized), (f__law_inner, c__law_inner), (f__law_who, c__law_who), (f__law_serves, c__law_serves), (f__law_play, c__law_play), (f__law_row, c__law_row), (f__law_one, c__law_one), (f__law_told, c__law_told), (f__law_due, c__law_due), (f_law, c_law)]
def glT : List (Str × Val) := [(s_TURNS, (.tup [(.str s_keep), (.str s_each), (.str s_twos), (.str s_pairs), (.str s_winner), (.str s_on)])), (s_MOST_DEEP, (.int 4)), (s_MOST_SIZE, (.int 20)), (s_MOST_GOAL, (.int 30)), (s_MOST_LEAD, (.int 3)), (s_SERIES, (.tup [(.int 1), (.int 3), (.int 5), (.int 7)])), (s_MOST_POINTS, (.int 500))]
def gl (x : Str) : Option Val := glT.lookup x
theorem pg : Pg T gl := by
  constructor <;> rfl
section
variable {K : PySem.W.Frag} {h : Heap} {mg : Str → Option Value}
theorem d_is_number (X : K.In h) (G : h.Ns mainGlobals mg) (c : SaysX fa fn ex K) : ∃ a fd, DefOk K mg f_is_number c_is_number a fd :=
  defOk_of (ps := ["thing", "least", "most"]) X G (c.d.fact 0 (f := .glo f_is_number) rfl) (c.d.def_ 0 (d := dfn 26 f_is_number) rfl) rfl (by decide) ⟨rfl, rfl, rfl, by decide +kernel, rfl, by decide +kernel, by decide +kernel⟩ (by decide +kernel) fun _ _ _ _ _ _ us hl => match us, hl with | [_, _, _], _ => rfl
theorem d_is_turn (X : K.In h) (G : h.Ns mainGlobals mg) (c : SaysX fa fn ex K) : ∃ a fd, DefOk K mg f_is_turn c_is_turn a fd :=
  defOk_of (ps := ["thing"]) X G (c.d.fact 1 (f := .glo f_is_turn) rfl) (c.d.def_ 1 (d := dfn 27 f_is_turn) rfl) rfl (by decide) ⟨rfl, rfl, rfl, by decide +kernel, rfl, by decide +kernel, by decide +kernel⟩ (by decide +kernel) fun _ _ _ _ _ _ us hl => match us, hl with | [_], _ => rfl
theorem d_is_race (X : K.In h) (G : h.Ns mainGlobals mg) (c : SaysX fa fn ex K) : ∃ a fd, DefOk K mg f_is_race c_is_race a fd :=
  defOk_of (ps := ["thing", "room"]) X G (c.d.fact 2 (f := .glo f_is_race) rfl) (c.d.def_ 2 (d := dfn 28 f_is_race) rfl) rfl (by decide) ⟨rfl, rfl, rfl, by decide +kernel, rfl, by decide +kernel, by decide +kernel⟩ (by decide +kernel) fun _ _ _ _ _ _ us hl => match us, hl with | [_, _], _ => rfl
theorem d_is_tied (X : K.In h) (G : h.Ns mainGlobals mg) (c : SaysX fa fn ex K) : ∃ a fd, DefOk K mg f_is_tied c_is_tied a fd :=
  defOk_of (ps := ["thing", "room"]) X G (c.d.fact 3 (f := .glo f_is_tied) rfl) (c.d.def_ 3 (d := dfn 29 f_is_tied) rfl) rfl (by decide) ⟨rfl, rfl, rfl, by decide +kernel, rfl, by decide +kernel, by decide +kernel⟩ (by decide +kernel) fun _ _ _ _ _ _ us hl => match us, hl with | [_, _], _ => rfl
theorem d_is_series (X : K.In h) (G : h.Ns mainGlobals mg) (c : SaysX fa fn ex K) : ∃ a fd, DefOk K mg f_is_series c_is_series a fd :=
  defOk_of (ps := ["thing", "room"]) X G (c.d.fact 4 (f := .glo f_is_series) rfl) (c.d.def_ 4 (d := dfn 30 f_is_series) rfl) rfl (by decide) ⟨rfl, rfl, rfl, by decide +kernel, rfl, by decide +kernel, by decide +kernel⟩ (by decide +kernel) fun _ _ _ _ _ _ us hl => match us, hl with | [_, _], _ => rfl
theorem d_is_shape (X : K.In h) (G : h.Ns mainGlobals mg) (c : SaysX fa fn ex K) : ∃ a fd, DefOk K mg f_is_shape c_is_shape a fd :=
  defOk_of (ps := ["thing", "room"]) X G (c.d.fact 5 (f := .glo f_is_shape) rfl) (c.d.def_ 5 (d := dfn 31 f_is_shape) rfl) rfl (by decide) ⟨rfl, rfl, rfl, by decide +kernel, rfl, by decide +kernel, by decide +kernel⟩ (by decide +kernel) fun _ _ _ _ _ _ us hl => match us, hl with | [_, _], _ => rfl
theorem d_parts (X : K.In h) (G : h.Ns mainGlobals mg) (c : SaysX fa fn ex K) : ∃ a fd, DefOk K mg f_parts c_parts a fd :=
  defOk_of (ps := ["form"]) X G (c.d.fact 6 (f := .glo f_parts) rfl) (c.d.def_ 6 (d := dfn 32 f_parts) rfl) rfl (by decide) ⟨rfl, rfl, rfl, by decide +kernel, rfl, by decide +kernel, by decide +kernel⟩ (by decide +kernel) fun _ _ _ _ _ _ us hl => match us, hl with | [_], _ => rfl
theorem d_size_of (X : K.In h) (G : h.Ns mainGlobals mg) (c : SaysX fa fn ex K) : ∃ a fd, DefOk K mg f_size_of c_size_of a fd :=
  defOk_of (ps := ["form"]) X G (c.d.fact 7 (f := .glo f_size_of) rfl) (c.d.def_ 7 (d := dfn 33 f_size_of) rfl) rfl (by decide) ⟨rfl, rfl, rfl, by decide +kernel, rfl, by decide +kernel, by decide +kernel⟩ (by decide +kernel) fun _ _ _ _ _ _ us hl => match us, hl with | [_], _ => rfl
theorem d_is_form (X : K.In h) (G : h.Ns mainGlobals mg) (c : SaysX fa fn ex K) : ∃ a fd, DefOk K mg f_is_form c_is_form a fd :=
  defOk_of (ps := ["thing"]) X G (c.d.fact 8 (f := .glo f_is_form) rfl) (c.d.def_ 8 (d := dfn 34 f_is_form) rfl) rfl (by decide) ⟨rfl, rfl, rfl, by decide +kernel, rfl, by decide +kernel, by decide +kernel⟩ (by decide +kernel) fun _ _ _ _ _ _ us hl => match us, hl with | [_], _ => rfl
theorem d_look_form (X : K.In h) (G : h.Ns mainGlobals mg) (c : SaysX fa fn ex K) : ∃ a fd, DefOk K mg f_look_form c_look_form a fd :=
  defOk_of (ps := ["form"]) X G (c.d.fact 9 (f := .glo f_look_form) rfl) (c.d.def_ 9 (d := dfn 35 f_look_form) rfl) rfl (by decide) ⟨rfl, rfl, rfl, by decide +kernel, rfl, by decide +kernel, by decide +kernel⟩ (by decide +kernel) fun _ _ _ _ _ _ us hl => match us, hl with | [_], _ => rfl
theorem d_look_side (X : K.In h) (G : h.Ns mainGlobals mg) (c : SaysX fa fn ex K) : ∃ a fd, DefOk K mg f_look_side c_look_side a fd :=
  defOk_of (ps := ["side"]) X G (c.d.fact 10 (f := .glo f_look_side) rfl) (c.d.def_ 10 (d := dfn 38 f_look_side) rfl) rfl (by decide) ⟨rfl, rfl, rfl, by decide +kernel, rfl, by decide +kernel, by decide +kernel⟩ (by decide +kernel) fun _ _ _ _ _ _ us hl => match us, hl with | [_], _ => rfl
theorem d_look_row (X : K.In h) (G : h.Ns mainGlobals mg) (c : SaysX fa fn ex K) : ∃ a fd, DefOk K mg f_look_row c_look_row a fd :=
  defOk_of (ps := ["row"]) X G (c.d.fact 11 (f := .glo f_look_row) rfl) (c.d.def_ 11 (d := dfn 39 f_look_row) rfl) rfl (by decide) ⟨rfl, rfl, rfl, by decide +kernel, rfl, by decide +kernel, by decide +kernel⟩ (by decide +kernel) fun _ _ _ _ _ _ us hl => match us, hl with | [_], _ => rfl
theorem d_inner_at (X : K.In h) (G : h.Ns mainGlobals mg) (c : SaysX fa fn ex K) : ∃ a fd, DefOk K mg f_inner_at c_inner_at a fd :=
  defOk_of (ps := ["form", "mine", "its"]) X G (c.d.fact 12 (f := .glo f_inner_at) rfl) (c.d.def_ 12 (d := dfn 40 f_inner_at) rfl) rfl (by decide) ⟨rfl, rfl, rfl, by decide +kernel, rfl, by decide +kernel, by decide +kernel⟩ (by decide +kernel) fun _ _ _ _ _ _ us hl => match us, hl with | [_, _, _], _ => rfl
theorem d_begun (X : K.In h) (G : h.Ns mainGlobals mg) (c : SaysX fa fn ex K) : ∃ a fd, DefOk K mg f_begun c_begun a fd :=
  defOk_of (ps := ["form", "first"]) X G (c.d.fact 13 (f := .glo f_begun) rfl) (c.d.def_ 13 (d := dfn 41 f_begun) rfl) rfl (by decide) ⟨rfl, rfl, rfl, by decide +kernel, rfl, by decide +kernel, by decide +kernel⟩ (by decide +kernel) fun _ _ _ _ _ _ us hl => match us, hl with | [_, _], _ => rfl
theorem d_won_by (X : K.In h) (G : h.Ns mainGlobals mg) (c : SaysX fa fn ex K) : ∃ a fd, DefOk K mg f_won_by c_won_by a fd :=
  defOk_of (ps := ["form", "mine", "its"]) X G (c.d.fact 14 (f := .glo f_won_by) rfl) (c.d.def_ 14 (d := dfn 42 f_won_by) rfl) rfl (by decide) ⟨rfl, rfl, rfl, by decide +kernel, rfl, by decide +kernel, by decide +kernel⟩ (by decide +kernel) fun _ _ _ _ _ _ us hl => match us, hl with | [_, _, _], _ => rfl
theorem d_served (X : K.In h) (G : h.Ns mainGlobals mg) (c : SaysX fa fn ex K) : ∃ a fd, DefOk K mg f_served c_served a fd :=
  defOk_of (ps := ["form", "first", "number", "winner", "tail"]) X G (c.d.fact 15 (f := .glo f_served) rfl) (c.d.def_ 15 (d := dfn 43 f_served) rfl) rfl (by decide) ⟨rfl, rfl, rfl, by decide +kernel, rfl, by decide +kernel, by decide +kernel⟩ (by decide +kernel) fun _ _ _ _ _ _ us hl => match us, hl with | [_, _, _, _, _], _ => rfl
theorem d_decided (X : K.In h) (G : h.Ns mainGlobals mg) (c : SaysX fa fn ex K) : ∃ a fd, DefOk K mg f_decided c_decided a fd :=
  defOk_of (ps := ["form", "mine", "its", "winner"]) X G (c.d.fact 16 (f := .glo f_decided) rfl) (c.d.def_ 16 (d := dfn 44 f_decided) rfl) rfl (by decide) ⟨rfl, rfl, rfl, by decide +kernel, rfl, by decide +kernel, by decide +kernel⟩ (by decide +kernel) fun _ _ _ _ _ _ us hl => match us, hl with | [_, _, _, _], _ => rfl
theorem d_behind (X : K.In h) (G : h.Ns mainGlobals mg) (c : SaysX fa fn ex K) : ∃ a fd, DefOk K mg f_behind c_behind a fd :=
  defOk_of (ps := ["state", "winner", "tail"]) X G (c.d.fact 17 (f := .glo f_behind) rfl) (c.d.def_ 17 (d := dfn 45 f_behind) rfl) rfl (by decide) ⟨rfl, rfl, rfl, by decide +kernel, rfl, by decide +kernel, by decide +kernel⟩ (by decide +kernel) fun _ _ _ _ _ _ us hl => match us, hl with | [_, _, _], _ => rfl
theorem d_lifted (X : K.In h) (G : h.Ns mainGlobals mg) (c : SaysX fa fn ex K) : ∃ a fd, DefOk K mg f_lifted c_lifted a fd :=
  defOk_of (ps := ["state", "inner", "closed"]) X G (c.d.fact 18 (f := .glo f_lifted) rfl) (c.d.def_ 18 (d := dfn 46 f_lifted) rfl) rfl (by decide) ⟨rfl, rfl, rfl, by decide +kernel, rfl, by decide +kernel, by decide +kernel⟩ (by decide +kernel) fun _ _ _ _ _ _ us hl => match us, hl with | [_, _, _], _ => rfl
theorem d_pushed (X : K.In h) (G : h.Ns mainGlobals mg) (c : SaysX fa fn ex K) : ∃ a fd, DefOk K mg f_pushed c_pushed a fd :=
  defOk_of (ps := ["state", "side"]) X G (c.d.fact 19 (f := .glo f_pushed) rfl) (c.d.def_ 19 (d := dfn 47 f_pushed) rfl) rfl (by decide) ⟨rfl, rfl, rfl, by decide +kernel, rfl, by decide +kernel, by decide +kernel⟩ (by decide +kernel) fun _ _ _ _ _ _ us hl => match us, hl with | [_, _], _ => rfl
theorem d_pairs (X : K.In h) (G : h.Ns mainGlobals mg) (c : SaysX fa fn ex K) : ∃ a fd, DefOk K mg f_pairs c_pairs a fd :=
  defOk_of (ps := ["state"]) X G (c.d.fact 20 (f := .glo f_pairs) rfl) (c.d.def_ 20 (d := dfn 48 f_pairs) rfl) rfl (by decide) ⟨rfl, rfl, rfl, by decide +kernel, rfl, by decide +kernel, by decide +kernel⟩ (by decide +kernel) fun _ _ _ _ _ _ us hl => match us, hl with | [_], _ => rfl
theorem d_server_of (X : K.In h) (G : h.Ns mainGlobals mg) (c : SaysX fa fn ex K) : ∃ a fd, DefOk K mg f_server_of c_server_of a fd :=
  defOk_of (ps := ["state"]) X G (c.d.fact 21 (f := .glo f_server_of) rfl) (c.d.def_ 21 (d := dfn 49 f_server_of) rfl) rfl (by decide) ⟨rfl, rfl, rfl, by decide +kernel, rfl, by decide +kernel, by decide +kernel⟩ (by decide +kernel) fun _ _ _ _ _ _ us hl => match us, hl with | [_], _ => rfl
theorem d_winner_of (X : K.In h) (G : h.Ns mainGlobals mg) (c : SaysX fa fn ex K) : ∃ a fd, DefOk K mg f_winner_of c_winner_of a fd :=
  defOk_of (ps := ["state"]) X G (c.d.fact 22 (f := .glo f_winner_of) rfl) (c.d.def_ 22 (d := dfn 50 f_winner_of) rfl) rfl (by decide) ⟨rfl, rfl, rfl, by decide +kernel, rfl, by decide +kernel, by decide +kernel⟩ (by decide +kernel) fun _ _ _ _ _ _ us hl => match us, hl with | [_], _ => rfl
theorem d_played (X : K.In h) (G : h.Ns mainGlobals mg) (c : SaysX fa fn ex K) : ∃ a fd, DefOk K mg f_played c_played a fd :=
  defOk_of (ps := ["form", "first", "row"]) X G (c.d.fact 23 (f := .glo f_played) rfl) (c.d.def_ 23 (d := dfn 51 f_played) rfl) rfl (by decide) ⟨rfl, rfl, rfl, by decide +kernel, rfl, by decide +kernel, by decide +kernel⟩ (by decide +kernel) fun _ _ _ _ _ _ us hl => match us, hl with | [_, _, _], _ => rfl
theorem d_state_of (X : K.In h) (G : h.Ns mainGlobals mg) (c : SaysX fa fn ex K) : ∃ a fd, DefOk K mg f_state_of c_state_of a fd :=
  defOk_of (ps := ["form", "first", "row"]) X G (c.d.fact 24 (f := .glo f_state_of) rfl) (c.d.def_ 24 (d := dfn 53 f_state_of) rfl) rfl (by decide) ⟨rfl, rfl, rfl, by decide +kernel, rfl, by decide +kernel, by decide +kernel⟩ (by decide +kernel) fun _ _ _ _ _ _ us hl => match us, hl with | [_, _, _], _ => rfl
theorem d_standing (X : K.In h) (G : h.Ns mainGlobals mg) (c : SaysX fa fn ex K) : ∃ a fd, DefOk K mg f_standing c_standing a fd :=
  defOk_of (ps := ["form", "first", "row"]) X G (c.d.fact 25 (f := .glo f_standing) rfl) (c.d.def_ 25 (d := dfn 54 f_standing) rfl) rfl (by decide) ⟨rfl, rfl, rfl, by decide +kernel, rfl, by decide +kernel, by decide +kernel⟩ (by decide +kernel) fun _ _ _ _ _ _ us hl => match us, hl with | [_, _, _], _ => rfl
theorem d_winner (X : K.In h) (G : h.Ns mainGlobals mg) (c : SaysX fa fn ex K) : ∃ a fd, DefOk K mg f_winner c_winner a fd :=
  defOk_of (ps := ["form", "first", "row"]) X G (c.d.fact 26 (f := .glo f_winner) rfl) (c.d.def_ 26 (d := dfn 55 f_winner) rfl) rfl (by decide) ⟨rfl, rfl, rfl, by decide +kernel, rfl, by decide +kernel, by decide +kernel⟩ (by decide +kernel) fun _ _ _ _ _ _ us hl => match us, hl with | [_, _, _], _ => rfl
theorem d_server (X : K.In h) (G : h.Ns mainGlobals mg) (c : SaysX fa fn ex K) : ∃ a fd, DefOk K mg f_server c_server a fd :=
  defOk_of (ps := ["form", "first", "row"]) X G (c.d.fact 27 (f := .glo f_server) rfl) (c.d.def_ 27 (d := dfn 56 f_server) rfl) rfl (by decide) ⟨rfl, rfl, rfl, by decide +kernel, rfl, by decide +kernel, by decide +kernel⟩ (by decide +kernel) fun _ _ _ _ _ _ us hl => match us, hl with | [_, _, _], _ => rfl
theorem d__law_cell (X : K.In h) (G : h.Ns mainGlobals mg) (c : SaysX fa fn ex K) : ∃ a fd, DefOk K mg f__law_cell c__law_cell a fd :=
  defOk_of (ps := ["script", "k"]) X G (c.d.fact 28 (f := .glo f__law_cell) rfl) (c.d.def_ 28 (d := dfn 58 f__law_cell) rfl) rfl (by decide) ⟨rfl, rfl, rfl, by decide +kernel, rfl, by decide +kernel, by decide +kernel⟩ (by decide +kernel) fun _ _ _ _ _ _ us hl => match us, hl with | [_, _], _ => rfl
theorem d__law_mix (X : K.In h) (G : h.Ns mainGlobals mg) (c : SaysX fa fn ex K) : ∃ a fd, DefOk K mg f__law_mix c__law_mix a fd :=
  defOk_of (ps := ["script", "k"]) X G (c.d.fact 29 (f := .glo f__law_mix) rfl) (c.d.def_ 29 (d := dfn 59 f__law_mix) rfl) rfl (by decide) ⟨rfl, rfl, rfl, by decide +kernel, rfl, by decide +kernel, by decide +kernel⟩ (by decide +kernel) fun _ _ _ _ _ _ us hl => match us, hl with | [_, _], _ => rfl
theorem d__law_draw (X : K.In h) (G : h.Ns mainGlobals mg) (c : SaysX fa fn ex K) : ∃ a fd, DefOk K mg f__law_draw c__law_draw a fd :=
  defOk_of (ps := ["script", "town", "many"]) X G (c.d.fact 30 (f := .glo f__law_draw) rfl) (c.d.def_ 30 (d := dfn 60 f__law_draw) rfl) rfl (by decide) ⟨rfl, rfl, rfl, by decide +kernel, rfl, by decide +kernel, by decide +kernel⟩ (by decide +kernel) fun _ _ _ _ _ _ us hl => match us, hl with | [_, _, _], _ => rfl
theorem d__law_pick (X : K.In h) (G : h.Ns mainGlobals mg) (c : SaysX fa fn ex K) : ∃ a fd, DefOk K mg f__law_pick c__law_pick a fd :=
  defOk_of (ps := ["script", "town", "some"]) X G (c.d.fact 31 (f := .glo f__law_pick) rfl) (c.d.def_ 31 (d := dfn 61 f__law_pick) rfl) rfl (by decide) ⟨rfl, rfl, rfl, by decide +kernel, rfl, by decide +kernel, by decide +kernel⟩ (by decide +kernel) fun _ _ _ _ _ _ us hl => match us, hl with | [_, _, _], _ => rfl
theorem d__law_refusal (X : K.In h) (G : h.Ns mainGlobals mg) (c : SaysX fa fn ex K) : ∃ a fd, DefOk K mg f__law_refusal c__law_refusal a fd :=
  defOk_of (ps := ["caught"]) X G (c.d.fact 32 (f := .glo f__law_refusal) rfl) (c.d.def_ 32 (d := dfn 62 f__law_refusal) rfl) rfl (by decide) ⟨rfl, rfl, rfl, by decide +kernel, rfl, by decide +kernel, by decide +kernel⟩ (by decide +kernel) fun _ _ _ _ _ _ us hl => match us, hl with | [_], _ => rfl
theorem d__law_turn (X : K.In h) (G : h.Ns mainGlobals mg) (c : SaysX fa fn ex K) : ∃ a fd, DefOk K mg f__law_turn c__law_turn a fd :=
  defOk_of (ps := ["script", "town"]) X G (c.d.fact 33 (f := .glo f__law_turn) rfl) (c.d.def_ 33 (d := dfn 63 f__law_turn) rfl) rfl (by decide) ⟨rfl, rfl, rfl, by decide +kernel, rfl, by decide +kernel, by decide +kernel⟩ (by decide +kernel) fun _ _ _ _ _ _ us hl => match us, hl with | [_, _], _ => rfl
theorem d__law_form (X : K.In h) (G : h.Ns mainGlobals mg) (c : SaysX fa fn ex K) : ∃ a fd, DefOk K mg f__law_form c__law_form a fd :=
  defOk_of (ps := ["script", "town", "layers", "top"]) X G (c.d.fact 34 (f := .glo f__law_form) rfl) (c.d.def_ 34 (d := dfn 64 f__law_form) rfl) rfl (by decide) ⟨rfl, rfl, rfl, by decide +kernel, rfl, by decide +kernel, by decide +kernel⟩ (by decide +kernel) fun _ _ _ _ _ _ us hl => match us, hl with | [_, _, _, _], _ => rfl
theorem d__law_size (X : K.In h) (G : h.Ns mainGlobals mg) (c : SaysX fa fn ex K) : ∃ a fd, DefOk K mg f__law_size c__law_size a fd :=
  defOk_of (ps := ["form"]) X G (c.d.fact 35 (f := .glo f__law_size) rfl) (c.d.def_ 35 (d := dfn 65 f__law_size) rfl) rfl (by decide) ⟨rfl, rfl, rfl, by decide +kernel, rfl, by decide +kernel, by decide +kernel⟩ (by decide +kernel) fun _ _ _ _ _ _ us hl => match us, hl with | [_], _ => rfl
theorem d__law_sized (X : K.In h) (G : h.Ns mainGlobals mg) (c : SaysX fa fn ex K) : ∃ a fd, DefOk K mg f__law_sized c__law_sized a fd :=
  defOk_of (ps := ["script", "town", "layers", "top"]) X G (c.d.fact 36 (f := .glo f__law_sized) rfl) (c.d.def_ 36 (d := dfn 66 f__law_sized) rfl) rfl (by decide) ⟨rfl, rfl, rfl, by decide +kernel, rfl, by decide +kernel, by decide +kernel⟩ (by decide +kernel) fun _ _ _ _ _ _ us hl => match us, hl with | [_, _, _, _], _ => rfl
theorem d__law_inner (X : K.In h) (G : h.Ns mainGlobals mg) (c : SaysX fa fn ex K) : ∃ a fd, DefOk K mg f__law_inner c__law_inner a fd :=
  defOk_of (ps := ["form", "wins"]) X G (c.d.fact 37 (f := .glo f__law_inner) rfl) (c.d.def_ 37 (d := dfn 67 f__law_inner) rfl) rfl (by decide) ⟨rfl, rfl, rfl, by decide +kernel, rfl, by decide +kernel, by decide +kernel⟩ (by decide +kernel) fun _ _ _ _ _ _ us hl => match us, hl with | [_, _], _ => rfl
theorem d__law_who (X : K.In h) (G : h.Ns mainGlobals mg) (c : SaysX fa fn ex K) : ∃ a fd, DefOk K mg f__law_who c__law_who a fd :=
  defOk_of (ps := ["form", "wins", "last"]) X G (c.d.fact 38 (f := .glo f__law_who) rfl) (c.d.def_ 38 (d := dfn 68 f__law_who) rfl) rfl (by decide) ⟨rfl, rfl, rfl, by decide +kernel, rfl, by decide +kernel, by decide +kernel⟩ (by decide +kernel) fun _ _ _ _ _ _ us hl => match us, hl with | [_, _, _], _ => rfl
theorem d__law_serves (X : K.In h) (G : h.Ns mainGlobals mg) (c : SaysX fa fn ex K) : ∃ a fd, DefOk K mg f__law_serves c__law_serves a fd :=
  defOk_of (ps := ["turn", "first", "ones"]) X G (c.d.fact 39 (f := .glo f__law_serves) rfl) (c.d.def_ 39 (d := dfn 69 f__law_serves) rfl) rfl (by decide) ⟨rfl, rfl, rfl, by decide +kernel, rfl, by decide +kernel, by decide +kernel⟩ (by decide +kernel) fun _ _ _ _ _ _ us hl => match us, hl with | [_, _, _], _ => rfl
theorem d__law_play (X : K.In h) (G : h.Ns mainGlobals mg) (c : SaysX fa fn ex K) : ∃ a fd, DefOk K mg f__law_play c__law_play a fd :=
  defOk_of (ps := ["form", "first", "row", "at"]) X G (c.d.fact 40 (f := .glo f__law_play) rfl) (c.d.def_ 40 (d := dfn 70 f__law_play) rfl) rfl (by decide) ⟨rfl, rfl, rfl, by decide +kernel, rfl, by decide +kernel, by decide +kernel⟩ (by decide +kernel) fun _ _ _ _ _ _ us hl => match us, hl with | [_, _, _, _], _ => rfl
theorem d__law_row (X : K.In h) (G : h.Ns mainGlobals mg) (c : SaysX fa fn ex K) : ∃ a fd, DefOk K mg f__law_row c__law_row a fd :=
  defOk_of (ps := ["script", "town", "form", "top"]) X G (c.d.fact 41 (f := .glo f__law_row) rfl) (c.d.def_ 41 (d := dfn 71 f__law_row) rfl) rfl (by decide) ⟨rfl, rfl, rfl, by decide +kernel, rfl, by decide +kernel, by decide +kernel⟩ (by decide +kernel) fun _ _ _ _ _ _ us hl => match us, hl with | [_, _, _, _], _ => rfl
theorem d__law_one (X : K.In h) (G : h.Ns mainGlobals mg) (c : SaysX fa fn ex K) : ∃ a fd, DefOk K mg f__law_one c__law_one a fd :=
  defOk_of (ps := ["kind", "some"]) X G (c.d.fact 42 (f := .glo f__law_one) rfl) (c.d.def_ 42 (d := dfn 72 f__law_one) rfl) rfl (by decide) ⟨rfl, rfl, rfl, by decide +kernel, rfl, by decide +kernel, by decide +kernel⟩ (by decide +kernel) fun _ _ _ _ _ _ us hl => match us, hl with | [_, _], _ => rfl
theorem d__law_told (X : K.In h) (G : h.Ns mainGlobals mg) (c : SaysX fa fn ex K) : ∃ a fd, DefOk K mg f__law_told c__law_told a fd :=
  defOk_of (ps := ["kind", "some"]) X G (c.d.fact 43 (f := .glo f__law_told) rfl) (c.d.def_ 43 (d := dfn 73 f__law_told) rfl) rfl (by decide) ⟨rfl, rfl, rfl, by decide +kernel, rfl, by decide +kernel, by decide +kernel⟩ (by decide +kernel) fun _ _ _ _ _ _ us hl => match us, hl with | [_, _], _ => rfl
theorem d__law_due (X : K.In h) (G : h.Ns mainGlobals mg) (c : SaysX fa fn ex K) : ∃ a fd, DefOk K mg f__law_due c__law_due a fd :=
  defOk_of (ps := ["form", "first", "row"]) X G (c.d.fact 44 (f := .glo f__law_due) rfl) (c.d.def_ 44 (d := dfn 74 f__law_due) rfl) rfl (by decide) ⟨rfl, rfl, rfl, by decide +kernel, rfl, by decide +kernel, by decide +kernel⟩ (by decide +kernel) fun _ _ _ _ _ _ us hl => match us, hl with | [_, _, _], _ => rfl
theorem d_law (X : K.In h) (G : h.Ns mainGlobals mg) (c : SaysX fa fn ex K) : ∃ a fd, DefOk K mg f_law c_law a fd :=
  defOk_of (ps := ["script"]) X G (c.d.fact 45 (f := .glo f_law) rfl) (c.d.def_ 45 (d := dfn 75 f_law) rfl) rfl (by decide) ⟨rfl, rfl, rfl, by decide +kernel, rfl, by decide +kernel, by decide +kernel⟩ (by decide +kernel) fun _ _ _ _ _ _ us hl => match us, hl with | [_], _ => rfl
theorem all_d (X : K.In h) (G : h.Ns mainGlobals mg) (c : SaysX fa fn ex K) : AllD K mg T := .cons (d_is_number X G c) (.cons (d_is_turn X G c) (.cons (d_is_race X G c) (.cons (d_is_tied X G c) (.cons (d_is_series X G c) (.cons (d_is_shape X G c) (.cons (d_parts X G c) (.cons (d_size_of X G c) (.cons (d_is_form X G c) (.cons (d_look_form X G c) (.cons (d_look_side X G c) (.cons (d_look_row X G c) (.cons (d_inner_at X G c) (.cons (d_begun X G c) (.cons (d_won_by X G c) (.cons (d_served X G c) (.cons (d_decided X G c) (.cons (d_behind X G c) (.cons (d_lifted X G c) (.cons (d_pushed X G c) (.cons (d_pairs X G c) (.cons (d_server_of X G c) (.cons (d_winner_of X G c) (.cons (d_played X G c) (.cons (d_state_of X G c) (.cons (d_standing X G c) (.cons (d_winner X G c) (.cons (d_server X G c) (.cons (d__law_cell X G c) (.cons (d__law_mix X G c) (.cons (d__law_draw X G c) (.cons (d__law_pick X G c) (.cons (d__law_refusal X G c) (.cons (d__law_turn X G c) (.cons (d__law_form X G c) (.cons (d__law_size X G c) (.cons (d__law_sized X G c) (.cons (d__law_inner X G c) (.cons (d__law_who X G c) (.cons (d__law_serves X G c) (.cons (d__law_play X G c) (.cons (d__law_row X G c) (.cons (d__law_one X G c) (.cons (d__law_told X G c) (.cons (d__law_due X G c) (.cons (d_law X G c) (.nil))))))))))))))))))))))))))))))))))))))))))))))
theorem all_g (X : K.In h) (G : h.Ns mainGlobals mg) (c : SaysX fa fn ex K) : AllG K mg glT := by
  have z := c.x
  unfold ex at z
  simp only [Bool.and_eq_true] at z
  obtain ⟨⟨t0, t1⟩, _⟩ := z
  exact .cons (glob_tup X G (c.d.fact 46 (f := .glo s_TURNS) rfl) t0 (fun ρ H => .cons (.str _) (.cons (.str _) (.cons (.str _) (.cons (.str _) (.cons (.str _) (.cons (.str _) (.nil)))))))) (.cons (glob_int X G (c.d.fact 47 (f := .int s_MOST_DEEP 4) rfl)) (.cons (glob_int X G (c.d.fact 48 (f := .int s_MOST_SIZE 20) rfl)) (.cons (glob_int X G (c.d.fact 49 (f := .int s_MOST_GOAL 30) rfl)) (.cons (glob_int X G (c.d.fact 50 (f := .int s_MOST_LEAD 3) rfl)) (.cons (glob_tup X G (c.d.fact 51 (f := .glo s_SERIES) rfl) t1 (fun ρ H => .cons (.int _) (.cons (.int _) (.cons (.int _) (.cons (.int _) (.nil)))))) (.cons (glob_int X G (c.d.fact 52 (f := .int s_MOST_POINTS 500) rfl)) (.nil)))))))
theorem all_f (X : K.In h) (G : h.Ns mainGlobals mg) (c : SaysX fa fn ex K) : ∀ x ∈ freeNames, mg x = none := by
  intro x hx
  simp only [freeNames, List.mem_cons, List.not_mem_nil, or_false] at hx
  rcases hx with rfl | rfl | rfl | rfl | rfl | rfl | rfl | rfl | rfl | rfl | rfl | rfl | rfl
  · exact He.free_ok X G (c.d.fact 53 (f := .free "len") rfl)
  · exact He.free_ok X G (c.d.fact 54 (f := .free "abs") rfl)
  · exact He.free_ok X G (c.d.fact 55 (f := .free "max") rfl)
  · exact He.free_ok X G (c.d.fact 56 (f := .free "min") rfl)
  · exact He.free_ok X G (c.d.fact 57 (f := .free "sum") rfl)
  · exact He.free_ok X G (c.d.fact 58 (f := .free "all") rfl)
  · exact He.free_ok X G (c.d.fact 59 (f := .free "int") rfl)
  · exact He.free_ok X G (c.d.fact 60 (f := .free "str") rfl)
  · exact He.free_ok X G (c.d.fact 61 (f := .free "list") rfl)
  · exact He.free_ok X G (c.d.fact 62 (f := .free "tuple") rfl)
  · exact He.free_ok X G (c.d.fact 63 (f := .free "isinstance") rfl)
  · exact He.free_ok X G (c.d.fact 64 (f := .free "bool") rfl)
  · exact He.free_ok X G (c.d.fact 65 (f := .free "range") rfl)
theorem exok (X : K.In h) (G : h.Ns mainGlobals mg) (c : SaysX fa fn ex K) : ExOk K mg := by
  have z := c.x
  unfold ex at z
  obtain ⟨fd, F⟩ := c.d.def_ 46 (d := dOver) rfl
  exact exAll_ok X G (Bool.and_eq_true_iff.mp z).2 (He.free_ok X G (c.d.fact 66 (f := .free "ValueError") rfl)) F
end
theorem h_name : (HandSHeadRun.topDef R.prog 75).name = f_law := by kernel_rfl
theorem h_dfl : (HandSHeadRun.topDef R.prog 75).params.defaults = [] := by kernel_rfl
theorem h_scope : FnScope c_law.names ["script"] (defScope (top 75)) := ⟨rfl, rfl, rfl, by decide +kernel, rfl, by decide +kernel, by decide +kernel⟩
theorem h_isS : isSs c_law.names (defScope (top 75)) c_law.body (defBody (top 75)) = true := by decide +kernel
theorem h_bind (kV doc pm : Value) (an : Option Addr) (cdv ct : Value) (us : List Value) (hl : us.length = 1) : bindArgs (PySem.W.fnOf f_law f_law (defArgs (top 75)) (defBody (top 75)) (defScope (top 75)) .none kV doc pm an cdv ct) ⟨us, []⟩ = pure ((["script"] : List Str).zip us) := match us, hl with | [_], _ => rfl
theorem h_D {K : PySem.W.Frag} {h : Heap} {mg : Str → Option Value} (KX : K.In h) (G : h.Ns mainGlobals mg) (c : SaysX fa fn ex K) {fd : FuncData} (F : FunD K f_law f_law (defArgs (top 75)) (defBody (top 75)) (defScope (top 75)) [] [] (He.ga K f_law) fd) : DefOk K mg f_law c_law (He.ga K f_law) fd := defOk_fd (ps := ["script"]) KX G (c.d.fact 45 (f := .glo f_law) rfl) F rfl (by decide) h_scope h_isS fun kV doc pm an cdv ct us hl => h_bind kV doc pm an cdv ct us hl
theorem h_F (lt : ∀ ns : List Int, ns.length ≤ 63 → ∃ s, callN T gl 1000001 60 f_law [.ref 0] [.ro (ns.map Val.int)] = .ok (.bool true) s) (w : World) (mg : Str → Option Value) (fa' : Addr) (h : Heap) (Y : hk.says w h) (G : h.Ns mainGlobals mg) (hmg : mg f_law = some (.ref fa')) :
    ∃ (K : PySem.W.Frag) (fd : FuncData) (sp : Sp), K.In h ∧ (∀ (s : Shared) (u : Value), BindsTo s fd ⟨[u], []⟩ [("script", u)]) ∧
      (∀ (H : Hp) (a : Addr) (ns : List Int), ns.length ≤ 63 → Only H → SqL K H a (ns.map V.int) → sp [.ref a] H (fun v _ => v = .bl true) fun _ _ _ => False) ∧
      ∀ base : Heap, K.In base → base.Ns mainGlobals mg → FnOk R.prog w K mg base (L2.CX0) 60 fa' fd ["script"] sp := by
  obtain ⟨K, KX, c⟩ := Y
  obtain ⟨fd, F⟩ := c.d.def_ 45 (d := dfn 75 f_law) rfl
  have D := h_D KX G c F
  have ea : He.ga K f_law = fa' := by
    have e := D.mgf.symm.trans hmg
    injection e with e
    injection e
  rw [ea] at D
  refine ⟨K, fd, (fun vs H Q _ => spOf K ⟨callN T gl 1000001 60, gl, 1000001⟩ f_law vs H Q fun _ _ _ => False), KX, fun s u => ?_, fun H b ns hl hO hS => law_sp hO hS (lt ns hl), fun base KB GB => ?_⟩
  · exact L2.FunD.bindsA (ps := ["script"]) F (fun kV doc pm an cdv ct us hl => h_bind kV doc pm an cdv ct us hl) s [u] rfl
  · exact fn_calm (fns_ok (fun f d e => (all_d KB GB c).at_ e) (fun x v e => (all_g KB GB c).at_ e) (all_f KB GB c) (fun _ => exok KB GB c) 60 f_law c_law fa' fd rfl D)
theorem h_w : R.toRowW.promised := by w_witness2
end Lw
open PySem PySem.W PySem.Calls PyProof.Rows
set_option maxRecDepth 100000 in
set_option maxHeartbeats 8000000 in
theorem Lw.final (lt : ∀ ns : List Int, ns.length ≤ 63 → ∃ s, Ev.callN Lw.T Lw.gl 1000001 60 Ev.f_law [.ref 0] [.ro (ns.map Ev.Val.int)] = .ok (.bool true) s) : PySem.Challenge.rw_setpoints_k10_whole_standings.Holds := by
  w_on; o_law
  exact HandSHeadRun.head_any (r := Lw.R) (q := view Lw.R.prog [75]) (H := Lw.hk) (ob := Lw.ob) (M := 6000) (loose := Lw.loose) (d := HandSHeadRun.topDef Lw.R.prog 75) (kwd := []) Lw.ob_eq
    Lw.h_e Lw.h_f Lw.run Lw.h_def Lw.h_p Lw.h_k (by rfl) Lw.h_k1 Lw.h_ok Lw.h_b Lw.h_w (L2.walk_ofE (l := PySem.Challenge.rw_setpoints_k10_whole_standings) (n := 63) (k := 60) (x := "script") (CX := L2.CX0) rfl (by decide) Lw.h_dfl ⟨rfl, by decide, by decide⟩ (fun w mg fa h Y G hmg0 => Lw.h_F lt w mg fa h Y G (Lw.h_name ▸ hmg0)) (fun _ _ _ _ z => z))

end
namespace Ev
open PySem
/-! ### forms -/
inductive Turn where | keep | each | twos | pairs | winner | on
  deriving DecidableEq
def Turn.s : Turn → Str
  | .keep => s_keep | .each => s_each | .twos => s_twos | .pairs => s_pairs | .winner => s_winner | .on => s_on
inductive Form where
  | point
  | race (f : Form) (goal lead : Int) (t : Turn)
  | tied (f : Form) (goal lead even : Int) (l : Form) (t : Turn)
  | series (fs : List Form) (t : Turn)
mutual
def Form.enc : Form → Val
  | .point => .tup [.str s_point]
  | .race f g l t => .tup [.str s_race, f.enc, .int g, .int l, .str t.s]
  | .tied f g l e la t => .tup [.str s_tied, f.enc, .int g, .int l, .int e, la.enc, .str t.s]
  | .series fs t => .tup [.str s_series, .tup (encL fs), .str t.s]
def encL : List Form → List Val
  | [] => []
  | f :: fs => f.enc :: encL fs
end
theorem encL_map : ∀ fs : List Form, encL fs = fs.map Form.enc
  | [] => rfl
  | f :: fs => by rw [List.map_cons, ← encL_map fs]; rfl
mutual
def Form.deep : Form → Nat
  | .point => 1
  | .race f _ _ _ => 1 + f.deep
  | .tied f _ _ _ l _ => 1 + max f.deep l.deep
  | .series fs _ => 1 + deepL fs
def deepL : List Form → Nat
  | [] => 0
  | f :: fs => max f.deep (deepL fs)
end
mutual
def Form.size : Form → Nat
  | .point => 1
  | .race f _ _ _ => 1 + f.size
  | .tied f _ _ _ l _ => 1 + (f.size + l.size)
  | .series fs _ => 1 + sizeL fs
def sizeL : List Form → Nat
  | [] => 0
  | f :: fs => f.size + sizeL fs
end
mutual
/-- goals, leads, evens, numbers of forms as they may be -/
def Form.ok : Form → Prop
  | .point => True
  | .race f g l _ => f.ok ∧ (1 ≤ g ∧ g ≤ 30) ∧ (1 ≤ l ∧ l ≤ 3)
  | .tied f g l e la _ => f.ok ∧ (1 ≤ g ∧ g ≤ 30) ∧ (1 ≤ l ∧ l ≤ 3) ∧ (1 ≤ e ∧ e ≤ 30) ∧ la.ok ∧ (1 < l ∨ e < g)
  | .series fs _ => okL fs ∧ (fs.length = 1 ∨ fs.length = 3 ∨ fs.length = 5 ∨ fs.length = 7)
def okL : List Form → Prop
  | [] => True
  | f :: fs => f.ok ∧ okL fs
end
mutual
theorem low_enc (n : Nat) : ∀ f : Form, f.enc.lowB n = true
  | .point => rfl
  | .race f g l t => by simp [Form.enc, low_enc n f]
  | .tied f g l e la t => by simp [Form.enc, low_enc n f, low_enc n la]
  | .series fs t => by simp [Form.enc, low_encL n fs]
theorem low_encL (n : Nat) : ∀ fs : List Form, lowL n (encL fs) = true
  | [] => rfl
  | f :: fs => by simp [encL, low_enc n f, low_encL n fs]
end
theorem deep_pos : ∀ f : Form, 1 ≤ f.deep
  | .point => by simp [Form.deep]
  | .race _ _ _ _ => by simp [Form.deep]
  | .tied _ _ _ _ _ _ => by simp [Form.deep]
  | .series _ _ => by simp [Form.deep]
theorem deepL_mem : ∀ {fs : List Form} {f : Form}, f ∈ fs → f.deep ≤ deepL fs
  | _ :: fs, f, h => by
    rcases List.mem_cons.mp h with e | h
    · subst e; simp [deepL]; omega
    · have := deepL_mem h; simp [deepL]; omega
theorem okL_mem : ∀ {fs : List Form} {f : Form}, okL fs → f ∈ fs → f.ok
  | g :: fs, f, o, h => by
    rcases List.mem_cons.mp h with e | h
    · subst e; exact o.1
    · exact okL_mem o.2 h
theorem sizeL_sum : ∀ fs : List Form, sizeL fs = (fs.map Form.size).sum
  | [] => rfl
  | f :: fs => by rw [List.map_cons, List.sum_cons, ← sizeL_sum fs]; rfl
theorem encL_length (fs : List Form) : (encL fs).length = fs.length := by rw [encL_map, List.length_map]
/-! forms as data -/
mutual
def Form.py : Form → PyData
  | .point => .tuple [.str s_point]
  | .race f g l t => .tuple [.str s_race, f.py, .int g, .int l, .str t.s]
  | .tied f g l e la t => .tuple [.str s_tied, f.py, .int g, .int l, .int e, la.py, .str t.s]
  | .series fs t => .tuple [.str s_series, .tuple (pyL fs), .str t.s]
def pyL : List Form → List PyData
  | [] => []
  | f :: fs => f.py :: pyL fs
end
mutual
theorem toD_enc (st : Store) : ∀ (f : Form) (k : Nat), 2 * f.deep ≤ k → toD st k f.enc = some f.py
  | .point, k, h => by
    obtain ⟨m, rfl⟩ : ∃ m, k = m + 1 := ⟨k - 1, by simp [Form.deep] at h; omega⟩
    simp [Form.enc, toD, Form.py]
  | .race f g l t, k, h => by
    obtain ⟨m, rfl⟩ : ∃ m, k = m + 1 := ⟨k - 1, by simp [Form.deep] at h; omega⟩
    simp [Form.deep] at h
    simp [Form.enc, toD, Form.py, toD_enc st f m (by omega)]
  | .tied f g l e la t, k, h => by
    obtain ⟨m, rfl⟩ : ∃ m, k = m + 1 := ⟨k - 1, by simp [Form.deep] at h; omega⟩
    simp [Form.deep] at h
    simp [Form.enc, toD, Form.py, toD_enc st f m (by omega), toD_enc st la m (by omega)]
  | .series fs t, k, h => by
    obtain ⟨m, rfl⟩ : ∃ m, k = m + 2 := ⟨k - 2, by simp [Form.deep] at h; omega⟩
    simp [Form.deep] at h
    simp [Form.enc, toD, Form.py, toD_encL st fs m (by omega)]
theorem toD_encL (st : Store) : ∀ (fs : List Form) (k : Nat), 2 * deepL fs ≤ k → (encL fs).mapM (toD st k) = some (pyL fs)
  | [], k, h => by simp [encL, pyL]
  | f :: fs, k, h => by
    simp [deepL] at h
    simp [encL, pyL, toD_enc st f k (by omega), toD_encL st fs k (by omega)]
end
theorem turn_ok (t : Turn) : PyData.strOk t.s = true := by cases t <;> decide +kernel
theorem word_ok : PyData.strOk s_point = true ∧ PyData.strOk s_race = true ∧ PyData.strOk s_tied = true ∧ PyData.strOk s_series = true := by decide +kernel
mutual
theorem lay_py : ∀ f : Form, f.py.canLay0 = true
  | .point => by simp [Form.py, PyData.canLay0, PyData.canLayAll0, word_ok]
  | .race f g l t => by simp [Form.py, PyData.canLay0, PyData.canLayAll0, lay_py f, turn_ok, word_ok]
  | .tied f g l e la t => by simp [Form.py, PyData.canLay0, PyData.canLayAll0, lay_py f, lay_py la, turn_ok, word_ok]
  | .series fs t => by simp [Form.py, PyData.canLay0, PyData.canLayAll0, lay_pyL fs, turn_ok, word_ok]
theorem lay_pyL : ∀ fs : List Form, PyData.canLayAll0 (pyL fs) = true
  | [] => rfl
  | f :: fs => by simp [pyL, PyData.canLayAll0, lay_py f, lay_pyL fs]
end
mutual
theorem depth_py : ∀ f : Form, f.py.depth ≤ 2 * f.deep
  | .point => by simp [Form.py, PyData.depth, PyData.depthAll, Form.deep]
  | .race f g l t => by
    have := depth_py f
    simp [Form.py, PyData.depth, PyData.depthAll, Form.deep]; omega
  | .tied f g l e la t => by
    have := depth_py f
    have := depth_py la
    simp [Form.py, PyData.depth, PyData.depthAll, Form.deep]; omega
  | .series fs t => by
    have := depth_pyL fs
    simp [Form.py, PyData.depth, PyData.depthAll, Form.deep]; omega
theorem depth_pyL : ∀ fs : List Form, PyData.depthAll (pyL fs) ≤ 2 * deepL fs
  | [] => by simp [pyL, PyData.depthAll]
  | f :: fs => by
    have := depth_py f
    have := depth_pyL fs
    simp [pyL, PyData.depthAll, deepL]; omega
end
theorem shaped_py {f : Form} (h : f.deep ≤ 12) : SeqAt.shaped f.py = true := by
  unfold SeqAt.shaped
  have := depth_py f
  rw [lay_py, Bool.true_and, decide_eq_true_eq]; omega
theorem py_tuple : ∀ f : Form, ∃ d ds, f.py = .tuple (d :: ds)
  | .point => ⟨_, _, rfl⟩
  | .race _ _ _ _ => ⟨_, _, rfl⟩
  | .tied _ _ _ _ _ _ => ⟨_, _, rfl⟩
  | .series _ _ => ⟨_, _, rfl⟩
theorem enc_tup : ∀ f : Form, ∃ xs, f.enc = .tup xs
  | .point => ⟨_, rfl⟩
  | .race _ _ _ _ => ⟨_, rfl⟩
  | .tied _ _ _ _ _ _ => ⟨_, rfl⟩
  | .series _ _ => ⟨_, rfl⟩
/-- no form is the empty tuple -/
theorem enc_ne_nil {f : Form} (h : f.deep ≤ 12) (st : Store) : cmpop .eq f.enc (.tup []) st = .ok (.bool false) st := by
  have e : eqM st f.enc (.tup []) = some false := by
    obtain ⟨xs, e1⟩ := enc_tup f
    obtain ⟨d, ds, e2⟩ := py_tuple f
    have h1 : toD st eqDeep f.enc = some f.py := toD_enc st f eqDeep (by show 2 * f.deep ≤ 24; omega)
    have h2 : toD st eqDeep (.tup []) = some (.tuple []) := rfl
    have h3 : scalB f.enc (.tup []) = none := by rw [e1]; rfl
    unfold eqM
    rw [h3, h1, h2]
    simp only
    rw [if_pos ⟨shaped_py h, by decide +kernel⟩, e2]
    rfl
  show optB (eqM st f.enc (.tup [])) false st = _
  rw [e]; rfl
theorem small_line {n : Nat} (h : n ≤ 1000000) : n ≤ sizeLine := by rw [sizeLine_eq]; omega
@[simp] theorem line_0 : (0 ≤ sizeLine) = True := eq_true (small_line (by decide))
@[simp] theorem line_1 : (1 ≤ sizeLine) = True := eq_true (small_line (by decide))
@[simp] theorem line_2 : (2 ≤ sizeLine) = True := eq_true (small_line (by decide))
@[simp] theorem line_3 : (3 ≤ sizeLine) = True := eq_true (small_line (by decide))
@[simp] theorem line_4 : (4 ≤ sizeLine) = True := eq_true (small_line (by decide))
@[simp] theorem line_5 : (5 ≤ sizeLine) = True := eq_true (small_line (by decide))
@[simp] theorem line_6 : (6 ≤ sizeLine) = True := eq_true (small_line (by decide))
@[simp] theorem line_7 : (7 ≤ sizeLine) = True := eq_true (small_line (by decide))
theorem call_eq {T : Tab} {gl : Str → Option Val} {W n : Nat} {f : Str} {d : Def} {args : List Val} {st : Store} (h : T.lookup f = some d) (hn : 1 ≤ n) : callN T gl W n f args st = fin (canB T f) (runBody ⟨callN T gl W (n - 1), gl, W⟩ d args st) := by
  obtain ⟨m, rfl⟩ : ∃ m, n = m + 1 := ⟨n - 1, by omega⟩
  exact callN_succ h
section
variable {T : Tab} {gl : Str → Option Val} {W : Nat}
/-- a whole number between two -/
def isNum (v : Val) (a b : Int) : Bool := match v with
  | .int i => decide (a ≤ i) && decide (i ≤ b)
  | _ => false
theorem e_is_number (P : Pg T gl) {n : Nat} (hn : 1 ≤ n) (v : Val) (a b : Int) (st : Store) (hv : ∀ m, v ≠ .ref m) : callN T gl W n f_is_number [v, .int a, .int b] st = .ok (.bool (isNum v a b)) st := by
  rw [call_eq P.is_number hn]
  cases v with
  | ref m => exact absurd rfl (hv m)
  | int i =>
    by_cases h1 : a ≤ i <;> by_cases h2 : i ≤ b <;> simp [runBody, c_is_number, isNum, h1, h2]
  | _ => simp [runBody, c_is_number, isNum]
@[simp] theorem e_is_number_int (P : Pg T gl) {n : Nat} (hn : 1 ≤ n) (i a b : Int) (st : Store) : callN T gl W n f_is_number [.int i, .int a, .int b] st = .ok (.bool (decide (a ≤ i) && decide (i ≤ b))) st :=
  e_is_number P hn _ a b st (fun m => by simp)
theorem in_turns (t : Turn) (st : Store) : cmpop .isin (.str t.s) (.tup [.str s_keep, .str s_each, .str s_twos, .str s_pairs, .str s_winner, .str s_on]) st = .ok (.bool true) st := by
  cases t <;> simp [cmpop, inM, seqItems, flatB, flatEq, optB, Turn.s]
theorem e_is_turn (P : Pg T gl) {n : Nat} (hn : 1 ≤ n) (t : Turn) (st : Store) : callN T gl W n f_is_turn [.str t.s] st = .ok (.bool true) st := by
  rw [call_eq P.is_turn hn]
  simp [runBody, c_is_turn, P.g_TURNS, in_turns]
/-- what is asked of the forms within -/
def Shp (T : Tab) (gl : Str → Option Val) (W : Nat) (r : Nat) (m : Nat) : Prop := ∀ (f : Form) (n : Nat) (st : Store), f.ok → f.deep ≤ r → m ≤ n → callN T gl W n f_is_shape [f.enc, .int r] st = .ok (.bool true) st
theorem e_is_race (P : Pg T gl) {r m n : Nat} (ih : Shp T gl W r m) (hn : m + 2 ≤ n) {f : Form} {g l : Int} {t : Turn} (x : Val) (rest : List Val) (hx : x = .str s_race ∨ x = .str s_tied) (hl : (x :: f.enc :: .int g :: .int l :: rest).getLast? = some (.str t.s)) (ok : f.ok) (hg : 1 ≤ g ∧ g ≤ 30) (hl2 : 1 ≤ l ∧ l ≤ 3) (hd : f.deep ≤ r) (st : Store) :
    callN T gl W n f_is_race [.tup (x :: f.enc :: .int g :: .int l :: rest), .int r] st = .ok (.bool true) st := by
  rw [call_eq P.is_race (by omega)]
  have e1 := ih f (n - 1) st ok hd (by omega)
  simp [runBody, c_is_race, e1, P.g_MOST_GOAL, P.g_MOST_LEAD, e_is_number_int P (show 1 ≤ n - 1 by omega), hg, hl2, at_last hl, e_is_turn P (show 1 ≤ n - 1 by omega)]
theorem e_is_series (P : Pg T gl) {r m n : Nat} (ih : Shp T gl W r m) (hn : m + 2 ≤ n) {fs : List Form} {t : Turn} (ok : okL fs) (hl : fs.length = 1 ∨ fs.length = 3 ∨ fs.length = 5 ∨ fs.length = 7) (hd : deepL fs ≤ r) (st : Store) :
    callN T gl W n f_is_series [.tup [.str s_series, .tup (encL fs), .str t.s], .int r] st = .ok (.bool true) st := by
  rw [call_eq P.is_series (by omega)]
  have h1 : inM st (.int (encL fs).length) (.tup [.int 1, .int 3, .int 5, .int 7]) = some true := by
    rw [encL_length]
    simp only [inM, seqItems, Option.bind_some]
    rw [if_pos ⟨rfl, rfl⟩]
    rcases hl with e | e | e | e <;> rw [e] <;> rfl
  have h2 : cmpop .notin (.int (encL fs).length) (.tup [.int 1, .int 3, .int 5, .int 7]) st = .ok (.bool false) st := by
    simp [cmpop, h1, optB]
  have h3 : compLoop (runC ⟨callN T gl W (n - 1), gl, W⟩ 2 .nil (.call f_is_shape (.cons (.var 2) (.cons (.var 1) .nil))) [some (.tup [.str s_series, .tup (encL fs), .str t.s]), some (.int r), none]) (stays .seq (.tup (encL fs)) (encL fs)) st.length (encL fs) (st ++ [.lst []]) = .ok (.ref st.length) (st ++ [.lst (fs.map fun _ => Val.bool true)]) := by
    have := comp_map (f := runC ⟨callN T gl W (n - 1), gl, W⟩ 2 .nil (.call f_is_shape (.cons (.var 2) (.cons (.var 1) .nil))) [some (.tup [.str s_series, .tup (encL fs), .str t.s]), some (.int r), none]) (ok := stays .seq (.tup (encL fs)) (encL fs)) (D := st.length) (pre := st) (enc := Form.enc) (g := fun _ => Val.bool true) rfl (fun _ => trivial) fs []
      (fun g hg acc => by
        have e1 := ih g (n - 1) (st ++ [.lst acc]) (okL_mem ok hg) (Nat.le_trans (deepL_mem hg) hd) (by omega)
        simp [runC, isNil, e1]) (small_line (by simp; rcases hl with e | e | e | e <;> omega))
    rw [← encL_map, List.nil_append] at this
    exact this
  have h4 : listAt (st ++ [Cell.lst (fs.map fun _ => Val.bool true)]) st.length = some (fs.map fun _ => Val.bool true) := listAt_lst (by simp)
  simp [runBody, c_is_series, P.g_SERIES, h2, e_is_turn P (show 1 ≤ n - 1 by omega), srcItems, h3, bi_all h4 (allBools_map (f := fun _ => true) fs)]
theorem e_is_shape (P : Pg T gl) : ∀ r : Nat, r ≤ 12 → Shp T gl W r (4 * r + 1) := by
  intro r
  induction r with
  | zero =>
    intro _ f n st _ hd _
    have := deep_pos f
    omega
  | succ r ih =>
    intro h12 f n st ok hd hn
    have ih := ih (by omega)
    rw [call_eq P.is_shape (by omega)]
    have hr : ((r : Int) + 1 = 0) = False := eq_false (by omega)
    have hr2 : (((r + 1 : Nat) : Int)) = (r : Int) + 1 := by omega
    rw [hr2]
    have hc : f.deep ≤ r + 1 → r + 1 ≤ 12 → cmpop .eq f.enc (.tup []) st = .ok (.bool false) st := fun h1 h2 => enc_ne_nil (by omega) st
    cases f with
    | point =>
      have hc := hc hd h12
      simp only [Form.enc] at hc
      simp [runBody, c_is_shape, Form.enc, hr, hc]
    | race f g l t =>
      have hc := hc hd h12
      simp only [Form.enc] at hc
      simp only [Form.deep] at hd
      have e1 := e_is_race (W := W) P ih (n := n - 1) (by omega) (f := f) (g := g) (l := l) (t := t) (.str s_race) [.str t.s] (.inl rfl) rfl ok.1 ok.2.1 ok.2.2 (by omega) st
      simp [runBody, c_is_shape, Form.enc, hr, hc, e1]
    | tied f g l e la t =>
      have hc := hc hd h12
      simp only [Form.enc] at hc
      simp only [Form.deep] at hd
      obtain ⟨o1, o2, o3, o4, o5, o6⟩ := ok
      have hd3 : f.deep ≤ r ∧ la.deep ≤ r := by omega
      have e1 := e_is_race (W := W) P ih (n := n - 1 - 1) (by omega) (f := f) (g := g) (l := l) (t := t) (.str s_tied) [.int e, la.enc, .str t.s] (.inr rfl) rfl o1 o2 o3 hd3.1 st
      have e2 := ih la (n - 1 - 1) st o5 hd3.2 (by omega)
      have e3 : callN T gl W (n - 1) f_is_tied [.tup [.str s_tied, f.enc, .int g, .int l, .int e, la.enc, .str t.s], .int r] st = .ok (.bool true) st := by
        rw [call_eq P.is_tied (by omega)]
        by_cases hl : 1 < l
        · simp [runBody, c_is_tied, e1, e2, P.g_MOST_GOAL, e_is_number_int P (show 1 ≤ n - 1 - 1 by omega), o4, hl]
        · have he : e < g := by rcases o6 with z | z <;> omega
          simp [runBody, c_is_tied, e1, e2, P.g_MOST_GOAL, e_is_number_int P (show 1 ≤ n - 1 - 1 by omega), o4, hl, he]
      simp [runBody, c_is_shape, Form.enc, hr, hc, e3]
    | series fs t =>
      have hc := hc hd h12
      simp only [Form.enc] at hc
      simp only [Form.deep] at hd
      have e1 := e_is_series (W := W) P ih (n := n - 1) (by omega) (fs := fs) (t := t) ok.1 ok.2 (by omega) st
      simp [runBody, c_is_shape, Form.enc, hr, hc, e1]
/-- the forms right within -/
def Form.parts : Form → List Form
  | .point => []
  | .race f _ _ _ => [f]
  | .tied f _ _ _ l _ => [f, l]
  | .series fs _ => fs
theorem size_parts (f : Form) : f.size = 1 + sizeL f.parts := by
  cases f <;> simp [Form.size, Form.parts, sizeL]
theorem deep_parts {f g : Form} (h : g ∈ f.parts) : g.deep + 1 ≤ f.deep := by
  cases f with
  | point => cases h
  | race a _ _ _ => simp [Form.parts] at h; subst h; simp [Form.deep]; omega
  | tied a _ _ _ b _ => simp [Form.parts] at h; rcases h with h | h <;> subst h <;> simp [Form.deep] <;> omega
  | series fs _ => have := deepL_mem (show g ∈ fs from h); simp [Form.deep]; omega
theorem e_parts (P : Pg T gl) {n : Nat} (hn : 1 ≤ n) (f : Form) (st : Store) : callN T gl W n f_parts [f.enc] st = .ok (.ref st.length) (st ++ [.lst (f.parts.map Form.enc)]) := by
  rw [call_eq P.parts hn]
  cases f with
  | point => simp [runBody, c_parts, Form.enc, Form.parts]; rw [gc_ret rfl]
  | race a x y z => simp [runBody, c_parts, Form.enc, Form.parts]; rw [gc_ret (by simp [low_enc])]
  | tied a x y z b u => simp [runBody, c_parts, Form.enc, Form.parts]; rw [gc_ret (by simp [low_enc])]
  | series fs t =>
    have := low_encL st.length fs
    simp [runBody, c_parts, Form.enc, Form.parts]; rw [gc_ret this, encL_map]
theorem e_size_of (P : Pg T gl) : ∀ (r : Nat) (f : Form) (n : Nat) (st : Store), f.deep ≤ r → f.size ≤ 1000 → r + 1 ≤ n → callN T gl W n f_size_of [f.enc] st = .ok (.int f.size) st := by
  intro r
  induction r with
  | zero =>
    intro f n st hd _ _
    have := deep_pos f
    omega
  | succ r ih =>
    intro f n st hd hsz hn
    rw [call_eq P.size_of (by omega)]
    have hsp := size_parts f
    have hlen : f.parts.length ≤ sizeL f.parts := by
      have : ∀ fs : List Form, fs.length ≤ sizeL fs := by
        intro fs
        induction fs with
        | nil => simp
        | cons g gs ih => cases g <;> simp [sizeL, Form.size] <;> omega
      exact this _
    have k1 := comp_map (f := runC ⟨callN T gl W (n - 1), gl, W⟩ 1 .nil (.call f_size_of (.cons (.var 1) .nil)) [some f.enc, none]) (ok := stays .seq (.ref st.length) (f.parts.map Form.enc)) (D := st.length + 1) (pre := st ++ [.lst (f.parts.map Form.enc)]) (enc := Form.enc) (g := fun g => Val.int g.size) (by simp) (fun acc => listAt_lst (by simp)) f.parts []
      (fun g hg acc => by
        have hd2 := deep_parts hg
        have hs2 : g.size ≤ sizeL f.parts := by
          have : ∀ fs : List Form, g ∈ fs → g.size ≤ sizeL fs := by
            intro fs
            induction fs with
            | nil => intro h; cases h
            | cons a as ih => intro h; rcases List.mem_cons.mp h with e | h
                              · subst e; simp [sizeL]
                              · have := ih h; simp [sizeL]; omega
          exact this _ hg
        have e1 := ih g (n - 1) (st ++ [.lst (f.parts.map Form.enc)] ++ [.lst acc]) (by omega) (by omega) (by omega)
        simp at e1
        simp [runC, isNil, e1]) (small_line (by simp; omega))
    rw [List.nil_append] at k1
    have h4 : listAt (st ++ [Cell.lst (f.parts.map Form.enc)] ++ [Cell.lst (f.parts.map fun g => Val.int g.size)]) (st.length + 1) = some (f.parts.map fun g => Val.int g.size) := listAt_lst (by simp)
    have h5 : allInts (f.parts.map fun g => Val.int (g.size : Int)) = some (f.parts.map fun g => (g.size : Int)) := allInts_map (f := fun g : Form => (g.size : Int)) f.parts
    have h6 : ((f.parts.map fun g => (g.size : Int)).sum) = (sizeL f.parts : Int) := by
      rw [sizeL_sum]
      generalize f.parts = gs
      induction gs with
      | nil => rfl
      | cons g gs ih => simp [ih]
    have h7 := bi_sum h4 h5
    have e2 : listAt (st ++ [Cell.lst (f.parts.map Form.enc)]) st.length = some (f.parts.map Form.enc) := listAt_lst (by simp)
    simp only [List.append_assoc, List.singleton_append] at k1 h7
    simp [runBody, c_size_of, e_parts P (show 1 ≤ n - 1 by omega), srcItems, e2, k1, h7, h6, hsp]
theorem e_is_form (P : Pg T gl) {n : Nat} (hn : 18 ≤ n) (f : Form) (ok : f.ok) (hd : f.deep ≤ 4) (hs : f.size ≤ 20) (st : Store) : callN T gl W n f_is_form [f.enc] st = .ok (.bool true) st := by
  rw [call_eq P.is_form (by omega)]
  have e1 := e_is_shape (W := W) P 4 (by decide) f (n - 1) st ok hd (by omega)
  have e2 := e_size_of (W := W) P 4 f (n - 1) st hd (by omega) (by omega)
  have hs2 : (f.size : Int) ≤ 20 := by omega
  simp at e1
  simp [runBody, c_is_form, P.g_MOST_DEEP, P.g_MOST_SIZE, e1, e2, hs2]
theorem e_look_form (P : Pg T gl) {n : Nat} (hn : 19 ≤ n) (f : Form) (ok : f.ok) (hd : f.deep ≤ 4) (hs : f.size ≤ 20) (st : Store) : callN T gl W n f_look_form [f.enc] st = .ok .none st := by
  rw [call_eq P.look_form (by omega)]
  simp [runBody, c_look_form, e_is_form P (show 18 ≤ n - 1 by omega) f ok hd hs]
end

/-! ### contests as they are played -/
def Form.turn : Form → Turn
  | .point => .keep
  | .race _ _ _ t => t
  | .tied _ _ _ _ _ t => t
  | .series _ t => t
/-- at even -/
def Form.lastAt (f : Form) (m i : Int) : Bool := match f with
  | .tied _ _ _ e _ _ => decide (m = i) && decide (i = e)
  | _ => false
def Form.innerAt (f : Form) (m i : Int) : Form := match f with
  | .point => .point
  | .race f _ _ _ => f
  | .tied f _ _ e l _ => if m = i ∧ i = e then l else f
  | .series fs _ => fs.getD (m + i).toNat .point
def Form.goal : Form → Int
  | .point => 1
  | .race _ g _ _ => g
  | .tied _ g _ _ _ _ => g
  | .series fs _ => (fs.length : Int) / 2 + 1
def Form.lead : Form → Int
  | .point => 1
  | .race _ _ l _ => l
  | .tied _ _ l _ _ _ => l
  | .series _ _ => 1
def Form.wonBy (f : Form) (m i : Int) : Option Int := if imax m i < f.goal ∨ iabs (m - i) < f.lead then none else some (if i < m then 0 else 1)
def Turn.same : Turn → Int × Int
  | .each => (0, 2) | .twos => (0, 1) | .pairs => (0, 3) | _ => (0, 0)
def servedBy (t : Turn) (first number winner tail : Int) : Int := match t with
  | .winner => winner
  | .on => 1 - tail
  | .keep => first
  | t => if number % 4 = t.same.1 ∨ number % 4 = t.same.2 then first else 1 - first
def laterOf (m i w : Int) : Int × Int := if w = 0 then (m + 1, i) else (m, i + 1)
def Form.decided (f : Form) (m i w : Int) : Option Int := if f.lastAt m i = true then some w else f.wonBy (laterOf m i w).1 (laterOf m i w).2
inductive State where
  | pt (first : Int)
  | co (f : Form) (first m i : Int) (inner : State)
  | over (who tail : Int) (later : Option (Int × Int))
def encP : Option (Int × Int) → Val
  | none => .none
  | some p => .tup [.int p.1, .int p.2]
def State.enc : State → Val
  | .pt s => .tup [Form.point.enc, .int s]
  | .co f s m i inner => .tup [f.enc, .int s, .int m, .int i, inner.enc]
  | .over w t l => .tup [.str s_over, .int w, .int t, encP l]
mutual
def begun : Form → Int → State
  | .point, s => .pt s
  | .race f g l t, s => .co (.race f g l t) s 0 0 (begun f s)
  | .tied f g l e la t, s => .co (.tied f g l e la t) s 0 0 (if e = 0 then begun la s else begun f s)
  | .series fs t, s => .co (.series fs t) s 0 0 (begunH fs s)
def begunH : List Form → Int → State
  | [], s => .pt s
  | f :: _, s => begun f s
end
def State.first : State → Int
  | .pt s => s
  | .co _ s _ _ _ => s
  | .over _ t _ => t
def State.isOver : State → Bool
  | .over _ _ _ => true
  | _ => false
/-- what comes when the contest within ends -/
def behindS (f : Form) (s m i : Int) (inner : State) (w tail : Int) : State :=
  match f.decided m i w with
  | some who => .over who inner.first (some (laterOf m i w))
  | none => .co f s (laterOf m i w).1 (laterOf m i w).2 (begun (f.innerAt (laterOf m i w).1 (laterOf m i w).2) (servedBy f.turn s ((laterOf m i w).1 + (laterOf m i w).2) w tail))
def liftedS (f : Form) (s m i : Int) (inner : State) (p : State × Int) : State × Int :=
  match p.1 with
  | .over w t _ => (behindS f s m i inner w t, p.2 + (if (behindS f s m i inner w t).isOver then 1 else 0))
  | x => (.co f s m i x, p.2)
def pushed : State → Int → State × Int
  | .pt s, w => (.over w s none, 0)
  | .co f s m i inner, w => liftedS f s m i inner (pushed inner w)
  | .over a b c, _ => (.over a b c, 0)
def State.form : State → Form
  | .pt _ => .point
  | .co f _ _ _ _ => f
  | .over _ _ _ => .point
/-- counts of a series that goes on -/
def serOk (f : Form) (m i : Int) : Prop := match f with
  | .series _ _ => m < f.goal ∧ i < f.goal
  | _ => True
/-- a state as it may be: forms as they may be, counts of a contest that goes on -/
def State.good : State → Prop
  | .pt s => s = 0 ∨ s = 1
  | .co f s m i inner => f ≠ .point ∧ f.ok ∧ f.deep ≤ 4 ∧ (s = 0 ∨ s = 1) ∧ 0 ≤ m ∧ 0 ≤ i ∧ serOk f m i ∧ inner.form = f.innerAt m i ∧ inner.isOver = false ∧ inner.good
  | .over w t _ => (w = 0 ∨ w = 1) ∧ (t = 0 ∨ t = 1)
theorem low_state (n : Nat) : ∀ S : State, S.enc.lowB n = true
  | .pt s => by simp [State.enc, low_enc]
  | .co f s m i inner => by simp [State.enc, low_enc, low_state n inner]
  | .over w t l => by cases l <;> simp [State.enc, encP]
/-! what is known of the parts -/
theorem inner_deep {f : Form} (hf : f ≠ .point) {m i : Int} (hs : ∀ fs t, f = .series fs t → (m + i).toNat < fs.length) : (f.innerAt m i).deep + 1 ≤ f.deep ∧ (f.ok → (f.innerAt m i).ok) := by
  cases f with
  | point => exact absurd rfl hf
  | race a _ _ _ => exact ⟨by simp [Form.innerAt, Form.deep]; omega, fun o => o.1⟩
  | tied a _ _ e b _ =>
    by_cases h : m = i ∧ i = e
    · simp only [Form.innerAt, if_pos h]; exact ⟨by simp [Form.deep]; omega, fun o => o.2.2.2.2.1⟩
    · simp only [Form.innerAt, if_neg h]; exact ⟨by simp [Form.deep]; omega, fun o => o.1⟩
  | series fs t =>
    have h := hs fs t rfl
    have e : (Form.series fs t).innerAt m i = fs[(m + i).toNat] := by simp [Form.innerAt, h]
    have hm : fs[(m + i).toNat] ∈ fs := List.getElem_mem h
    rw [e]
    have := deepL_mem hm
    exact ⟨by simp [Form.deep]; omega, fun o => okL_mem o.1 hm⟩
theorem imax_le {a b : Int} : a ≤ imax a b ∧ b ≤ imax a b := by unfold imax; split <;> omega
theorem series_room {f : Form} {m i : Int} (ok : f.ok) (h0 : 0 ≤ m) (h1 : 0 ≤ i) (h : serOk f m i) : ∀ fs t, f = .series fs t → (m + i).toNat < fs.length := by
  intro fs t e
  subst e
  obtain ⟨_, hl⟩ := ok
  have h : m < (fs.length : Int) / 2 + 1 ∧ i < (fs.length : Int) / 2 + 1 := h
  omega
/-- .. one point more -/
theorem serOk_next {f : Form} {m i w : Int} (h0 : 0 ≤ m) (h1 : 0 ≤ i) (h : serOk f m i) (hd : f.decided m i w = none) : serOk f (laterOf m i w).1 (laterOf m i w).2 := by
  cases f with
  | series fs t =>
    have h : m < (Form.series fs t).goal ∧ i < (Form.series fs t).goal := h
    unfold Form.decided at hd
    rw [if_neg (by simp [Form.lastAt])] at hd
    unfold Form.wonBy at hd
    split at hd
    · rename_i hc
      show (laterOf m i w).1 < (Form.series fs t).goal ∧ (laterOf m i w).2 < (Form.series fs t).goal
      have hx := imax_le (a := (laterOf m i w).1) (b := (laterOf m i w).2)
      rcases hc with hc | hc
      · omega
      · have hc : iabs ((laterOf m i w).1 - (laterOf m i w).2) < 1 := hc
        have : (laterOf m i w).1 = (laterOf m i w).2 := by unfold iabs at hc; split at hc <;> omega
        unfold laterOf at this ⊢
        split at this <;> rename_i hw <;> simp only [hw, if_true, if_false] at this ⊢ <;> omega
    · cases hd
  | _ => trivial
theorem later_nonneg {m i w : Int} (h0 : 0 ≤ m) (h1 : 0 ≤ i) : 0 ≤ (laterOf m i w).1 ∧ 0 ≤ (laterOf m i w).2 := by unfold laterOf; split <;> simp <;> omega
section
variable {T : Tab} {gl : Str → Option Val} {W : Nat}
theorem e_inner_at (P : Pg T gl) {n : Nat} (hn : 1 ≤ n) {f : Form} (hf : f ≠ .point) (m i : Int) (h0 : 0 ≤ m) (h1 : 0 ≤ i) (hs : ∀ fs t, f = .series fs t → (m + i).toNat < fs.length) (st : Store) :
    callN T gl W n f_inner_at [f.enc, .int m, .int i] st = .ok (f.innerAt m i).enc st := by
  rw [call_eq P.inner_at hn]
  cases f with
  | point => exact absurd rfl hf
  | race a g l t => simp [runBody, c_inner_at, Form.enc, Form.innerAt, gc_self (low_enc _ _)]
  | tied a g l e b t =>
    by_cases c1 : m = i
    · by_cases c2 : i = e
      · simp [runBody, c_inner_at, Form.enc, Form.innerAt, gc_self (low_enc _ _), c1, c2]
      · simp [runBody, c_inner_at, Form.enc, Form.innerAt, gc_self (low_enc _ _), c1, c2]
    · simp [runBody, c_inner_at, Form.enc, Form.innerAt, gc_self (low_enc _ _), c1]
  | series fs t =>
    have h := hs fs t rfl
    have e : L2.atI (encL fs) (m + i) = some (fs[(m + i).toNat]).enc := by
      have q := at_nat (xs := encL fs) (k := (m + i).toNat) (v := (fs[(m + i).toNat]).enc) (by rw [encL_map, List.getElem?_map, List.getElem?_eq_getElem h]; rfl)
      rwa [Int.toNat_of_nonneg (by omega)] at q
    simp [runBody, c_inner_at, Form.enc, Form.innerAt, e, gc_self (low_enc _ _), h]
theorem begun_form : ∀ (f : Form) (s : Int), (begun f s).form = f
  | .point, s => rfl
  | .race _ _ _ _, s => rfl
  | .tied _ _ _ _ _ _, s => rfl
  | .series _ _, s => rfl
theorem begun_eq {f : Form} (hf : f ≠ .point) (ok : f.ok) (s : Int) : begun f s = .co f s 0 0 (begun (f.innerAt 0 0) s) := by
  cases f with
  | point => exact absurd rfl hf
  | race a _ _ _ => simp [begun, Form.innerAt]
  | tied a _ _ e b _ =>
    have : ¬ (0 : Int) = e := by have := ok.2.2.2.1; omega
    have h2 : ¬ e = 0 := fun z => this z.symm
    simp [begun, Form.innerAt, this, h2]
  | series fs t =>
    cases fs with
    | nil => simp [Form.ok] at ok
    | cons a as => simp [begun, begunH, Form.innerAt]
theorem begun_over (f : Form) (s : Int) : (begun f s).isOver = false := by
  cases f <;> rfl
theorem serOk_0 {f : Form} : serOk f 0 0 := by
  cases f with
  | series fs t => show (0 : Int) < (fs.length : Int) / 2 + 1 ∧ (0 : Int) < (fs.length : Int) / 2 + 1; omega
  | _ => trivial
theorem good_begun : ∀ (r : Nat) (f : Form) (s : Int), f.deep ≤ r → f.ok → f.deep ≤ 4 → (s = 0 ∨ s = 1) → (begun f s).good := by
  intro r
  induction r with
  | zero => intro f s h; have := deep_pos f; omega
  | succ r ih =>
    intro f s hd ok h4 hs
    by_cases hf : f = .point
    · subst hf; exact hs
    · rw [begun_eq hf ok]
      have q := inner_deep hf (series_room ok (Int.le_refl 0) (Int.le_refl 0) serOk_0)
      exact ⟨hf, ok, h4, hs, Int.le_refl 0, Int.le_refl 0, serOk_0, begun_form _ _, begun_over _ _, ih _ s (by omega) (q.2 ok) (by omega) hs⟩
theorem e_begun (P : Pg T gl) : ∀ (r : Nat) (f : Form) (s : Int) (n : Nat) (st : Store), f.deep ≤ r → f.ok → r + 2 ≤ n → callN T gl W n f_begun [f.enc, .int s] st = .ok (begun f s).enc st := by
  intro r
  induction r with
  | zero => intro f s n st h; have := deep_pos f; omega
  | succ r ih =>
    intro f s n st hd ok hn
    rw [call_eq P.begun (by omega)]
    by_cases hf : f = .point
    · subst hf
      simp [runBody, c_begun, Form.enc, begun, State.enc]
      rw [gc_self (by simp)]
    · have rm := series_room ok (Int.le_refl 0) (Int.le_refl 0) serOk_0
      have q := inner_deep hf rm
      have e1 := e_inner_at (W := W) P (n := n - 1) (by omega) hf 0 0 (Int.le_refl 0) (Int.le_refl 0) rm st
      have e2 := ih (f.innerAt 0 0) s (n - 1) st (by omega) (q.2 ok) (by omega)
      have hl : gc st (State.co f s 0 0 (begun (f.innerAt 0 0) s)).enc st = .ok (State.co f s 0 0 (begun (f.innerAt 0 0) s)).enc st := gc_self (low_state _ _)
      rw [begun_eq hf ok]
      cases f with
      | point => exact absurd rfl hf
      | race a g l t =>
        simp only [Form.enc, State.enc] at e1 hl
        simp [runBody, c_begun, Form.enc, e1, e2, State.enc, hl]
      | tied a g l e b t =>
        simp only [Form.enc, State.enc] at e1 hl
        simp [runBody, c_begun, Form.enc, e1, e2, State.enc, hl]
      | series fs t =>
        simp only [Form.enc, State.enc] at e1 hl
        simp [runBody, c_begun, Form.enc, e1, e2, State.enc, hl]
theorem e_won_by (P : Pg T gl) {n : Nat} (hn : 1 ≤ n) {f : Form} (hf : f ≠ .point) (m i : Int) (st : Store) :
    callN T gl W n f_won_by [f.enc, .int m, .int i] st = .ok (match f.wonBy m i with | some w => .int w | none => .none) st := by
  rw [call_eq P.won_by hn]
  have fin : ∀ g l : Int, f.goal = g → f.lead = l → (match f.wonBy m i with | some w => Val.int w | none => .none) = if imax m i < g ∨ iabs (m - i) < l then .none else .int (if i < m then 0 else 1) := fun g l e1 e2 => by
    unfold Form.wonBy
    rw [e1, e2]
    by_cases h : imax m i < g ∨ iabs (m - i) < l
    · rw [if_pos h, if_pos h]
    · rw [if_neg h, if_neg h]
  cases f with
  | point => exact absurd rfl hf
  | race a g l t =>
    rw [fin g l rfl rfl]
    by_cases c1 : imax m i < g
    · simp [runBody, c_won_by, Form.enc, c1]
    · by_cases c2 : iabs (m - i) < l
      · simp [runBody, c_won_by, Form.enc, c1, c2]
      · by_cases c3 : i < m <;> simp [runBody, c_won_by, Form.enc, c1, c2, c3]
  | tied a g l e b t =>
    rw [fin g l rfl rfl]
    by_cases c1 : imax m i < g
    · simp [runBody, c_won_by, Form.enc, c1]
    · by_cases c2 : iabs (m - i) < l
      · simp [runBody, c_won_by, Form.enc, c1, c2]
      · by_cases c3 : i < m <;> simp [runBody, c_won_by, Form.enc, c1, c2, c3]
  | series fs t =>
    rw [fin ((fs.length : Int) / 2 + 1) 1 rfl rfl]
    have q := b_fdiv (st := st) (i := (fs.length : Int)) (j := 2) (by decide) (by decide)
    by_cases c1 : imax m i < (fs.length : Int) / 2 + 1
    · simp [runBody, c_won_by, Form.enc, encL_length, q, c1]
    · by_cases c2 : iabs (m - i) < 1
      · simp [runBody, c_won_by, Form.enc, encL_length, q, c1, c2]
      · by_cases c3 : i < m <;> simp [runBody, c_won_by, Form.enc, encL_length, q, c1, c2, c3]
theorem e_decided (P : Pg T gl) {n : Nat} (hn : 2 ≤ n) {f : Form} (hf : f ≠ .point) (m i w : Int) (st : Store) :
    callN T gl W n f_decided [f.enc, .int m, .int i, .int w] st = .ok (.tup [.tup [.int (laterOf m i w).1, .int (laterOf m i w).2], match f.decided m i w with | some w => .int w | none => .none]) st := by
  rw [call_eq P.decided (by omega)]
  have e1 := e_won_by (W := W) P (n := n - 1) (by omega) hf (m + 1) i st
  have e2 := e_won_by (W := W) P (n := n - 1) (by omega) hf m (i + 1) st
  have lw : ∀ o : Option Int, Val.lowB st.length (match o with | some w => .int w | none => .none) = true := fun o => by cases o <;> rfl
  cases f with
  | point => exact absurd rfl hf
  | race a g l t =>
    simp only [Form.enc] at e1 e2
    by_cases c : w = 0
    · simp [runBody, c_decided, Form.enc, c, e1, laterOf, Form.decided, Form.lastAt]
      rw [gc_self (by simp [lw])]
    · simp [runBody, c_decided, Form.enc, c, e2, laterOf, Form.decided, Form.lastAt]
      rw [gc_self (by simp [lw])]
  | series fs t =>
    simp only [Form.enc] at e1 e2
    by_cases c : w = 0
    · simp [runBody, c_decided, Form.enc, c, e1, laterOf, Form.decided, Form.lastAt]
      rw [gc_self (by simp [lw])]
    · simp [runBody, c_decided, Form.enc, c, e2, laterOf, Form.decided, Form.lastAt]
      rw [gc_self (by simp [lw])]
  | tied a g l e b t =>
    simp only [Form.enc] at e1 e2
    by_cases c1 : m = i
    · by_cases c2 : i = e
      · by_cases c : w = 0
        · simp [runBody, c_decided, Form.enc, c, c1, c2, laterOf, Form.decided, Form.lastAt]
          rw [gc_self (by simp)]
        · simp [runBody, c_decided, Form.enc, c, c1, c2, laterOf, Form.decided, Form.lastAt]
          rw [gc_self (by simp)]
      · by_cases c : w = 0
        · subst c1
          simp [runBody, c_decided, Form.enc, c, c2, e1, laterOf, Form.decided, Form.lastAt]
          rw [gc_self (by simp [lw])]
        · subst c1
          simp [runBody, c_decided, Form.enc, c, c2, e2, laterOf, Form.decided, Form.lastAt]
          rw [gc_self (by simp [lw])]
    · by_cases c : w = 0
      · simp [runBody, c_decided, Form.enc, c, c1, e1, laterOf, Form.decided, Form.lastAt]
        rw [gc_self (by simp [lw])]
      · simp [runBody, c_decided, Form.enc, c, c1, e2, laterOf, Form.decided, Form.lastAt]
        rw [gc_self (by simp [lw])]
end

/-! ### who serves; what comes behind a point -/
section
variable {T : Tab} {gl : Str → Option Val} {W : Nat}
theorem in_pair (k a b : Int) (st : Store) : cmpop .isin (.int k) (.tup [.int a, .int b]) st = .ok (.bool (decide (k = a) || decide (k = b))) st := by
  have e : inM st (.int k) (.tup [.int a, .int b]) = some (decide (k = a) || decide (k = b)) := by
    simp only [inM, seqItems, Option.bind_some]
    rw [if_pos ⟨rfl, rfl⟩]
    simp only [List.any_cons, List.any_nil, Bool.or_false, flatEq]
    have q : ∀ x y : Int, (x == y) = decide (y = x) := fun x y => by rw [Bool.eq_iff_iff]; simp; exact eq_comm
    rw [q, q]
  show optB (inM st (.int k) (.tup [.int a, .int b])) false st = _
  rw [e]; rfl
theorem turn_last (f : Form) (hf : f ≠ .point) : ∃ xs, f.enc = .tup xs ∧ xs.getLast? = some (.str f.turn.s) := by
  cases f with
  | point => exact absurd rfl hf
  | race _ _ _ _ => exact ⟨_, rfl, rfl⟩
  | tied _ _ _ _ _ _ => exact ⟨_, rfl, rfl⟩
  | series _ _ => exact ⟨_, rfl, rfl⟩
theorem e_served (P : Pg T gl) {n : Nat} (hn : 1 ≤ n) {f : Form} (hf : f ≠ .point) (s k w t : Int) (st : Store) :
    callN T gl W n f_served [f.enc, .int s, .int k, .int w, .int t] st = .ok (.int (servedBy f.turn s k w t)) st := by
  rw [call_eq P.served hn]
  obtain ⟨xs, e1, e2⟩ := turn_last f hf
  rw [e1]
  have e3 := at_last e2
  have q := b_mod (st := st ++ [.dict [(Sum.inr s_each, .tup [.int 0, .int 2]), (Sum.inr s_twos, .tup [.int 0, .int 1]), (Sum.inr s_pairs, .tup [.int 0, .int 3])]]) (i := k) (j := 4) (by decide)
  generalize f.turn = u at e3
  have m : mergeKV [] [(Sum.inr s_each, Val.tup [.int 0, .int 2]), (Sum.inr s_twos, .tup [.int 0, .int 1]), (Sum.inr s_pairs, .tup [.int 0, .int 3])] = [(Sum.inr s_each, Val.tup [.int 0, .int 2]), (Sum.inr s_twos, .tup [.int 0, .int 1]), (Sum.inr s_pairs, .tup [.int 0, .int 3])] := by
    simp [mergeKV, putKV]
  cases u with
  | keep => simp [runBody, c_served, e3, Turn.s, servedBy]
  | winner => simp [runBody, c_served, e3, Turn.s, servedBy]
  | on => simp [runBody, c_served, e3, Turn.s, servedBy]
  | each =>
    by_cases c : k % 4 = 0 ∨ k % 4 = 2
    · simp [runBody, c_served, e3, Turn.s, servedBy, Turn.same, toPairs, keyOf, m, ixop, ixCell, valK, q, in_pair, c]
    · simp [runBody, c_served, e3, Turn.s, servedBy, Turn.same, toPairs, keyOf, m, ixop, ixCell, valK, q, in_pair, c]
  | twos =>
    by_cases c : k % 4 = 0 ∨ k % 4 = 1
    · simp [runBody, c_served, e3, Turn.s, servedBy, Turn.same, toPairs, keyOf, m, ixop, ixCell, valK, q, in_pair, c]
    · simp [runBody, c_served, e3, Turn.s, servedBy, Turn.same, toPairs, keyOf, m, ixop, ixCell, valK, q, in_pair, c]
  | pairs =>
    by_cases c : k % 4 = 0 ∨ k % 4 = 3
    · simp [runBody, c_served, e3, Turn.s, servedBy, Turn.same, toPairs, keyOf, m, ixop, ixCell, valK, q, in_pair, c]
    · simp [runBody, c_served, e3, Turn.s, servedBy, Turn.same, toPairs, keyOf, m, ixop, ixCell, valK, q, in_pair, c]
/-- a state's second item is who served it first -/
theorem state_first {S : State} (h : S.isOver = false) : ∃ xs, S.enc = .tup xs ∧ L2.atI xs 1 = some (.int S.first) := by
  cases S with
  | pt s => exact ⟨_, rfl, at_1⟩
  | co f s m i inner => exact ⟨_, rfl, at_1⟩
  | over _ _ _ => cases h
theorem e_behind (P : Pg T gl) {n : Nat} (hn : 8 ≤ n) {f : Form} (hf : f ≠ .point) (ok : f.ok) (hd : f.deep ≤ 4) (s m i : Int) (h0 : 0 ≤ m) (h1 : 0 ≤ i) (hs : serOk f m i) (inner : State) (ho : inner.isOver = false) (w t : Int) (st : Store) :
    callN T gl W n f_behind [(State.co f s m i inner).enc, .int w, .int t] st = .ok (behindS f s m i inner w t).enc st := by
  rw [call_eq P.behind (by omega)]
  have e1 := e_decided (W := W) P (n := n - 1) (by omega) hf m i w st
  have e4 : gc st (behindS f s m i inner w t).enc st = .ok (behindS f s m i inner w t).enc st := gc_self (low_state _ _)
  cases hdc : f.decided m i w with
  | some who =>
    rw [hdc] at e1
    obtain ⟨xs, x1, x2⟩ := state_first ho
    simp only [behindS, hdc, State.enc, encP] at e4
    simp [runBody, c_behind, State.enc, setAll, e1, x1, x2, behindS, hdc, encP, e4]
  | none =>
    rw [hdc] at e1
    have hs2 := serOk_next h0 h1 hs hdc
    have hn2 := later_nonneg (w := w) h0 h1
    have rm := series_room ok hn2.1 hn2.2 hs2
    have q := inner_deep hf rm
    have e2 := e_inner_at (W := W) P (n := n - 1) (by omega) hf (laterOf m i w).1 (laterOf m i w).2 hn2.1 hn2.2 rm st
    have e3 := e_served (W := W) P (n := n - 1) (by omega) hf s ((laterOf m i w).1 + (laterOf m i w).2) w t st
    have e5 := e_begun (W := W) P 4 (f.innerAt (laterOf m i w).1 (laterOf m i w).2) (servedBy f.turn s ((laterOf m i w).1 + (laterOf m i w).2) w t) (n - 1) st (by omega) (q.2 ok) (by omega)
    simp only [behindS, hdc, State.enc] at e4
    simp [runBody, c_behind, State.enc, setAll, e1, e2, e3, e5, behindS, hdc, e4]
/-- a form is no text -/
theorem enc_ne_str {f : Form} (h : f.deep ≤ 12) (x : Str) (hx : PyData.strOk x = true) (st : Store) : eqM st f.enc (.str x) = some false := by
  obtain ⟨xs, e1⟩ := enc_tup f
  obtain ⟨d, ds, e2⟩ := py_tuple f
  have h1 : toD st eqDeep f.enc = some f.py := toD_enc st f eqDeep (by show 2 * f.deep ≤ 24; omega)
  have h2 : toD st eqDeep (.str x) = some (.str x) := rfl
  have h3 : scalB f.enc (.str x) = none := by rw [e1]; rfl
  unfold eqM
  rw [h3, h1, h2]
  simp only
  have h4 : SeqAt.shaped (.str x) = true := by
    unfold SeqAt.shaped
    simp [PyData.canLay0, hx, PyData.depth]
  rw [if_pos ⟨shaped_py h, h4⟩, e2]
  rfl
theorem over_ok : PyData.strOk s_over = true := by decide +kernel
theorem ne_over {f : Form} (h : f.deep ≤ 12) (st : Store) : cmpop .ne f.enc (.str s_over) st = .ok (.bool true) st := by
  show optB (eqM st f.enc (.str s_over)) true st = _
  rw [enc_ne_str h _ over_ok]; rfl
theorem eq_over {f : Form} (h : f.deep ≤ 12) (st : Store) : cmpop .eq f.enc (.str s_over) st = .ok (.bool false) st := by
  show optB (eqM st f.enc (.str s_over)) false st = _
  rw [enc_ne_str h _ over_ok]; rfl
/-- how deep a state's forms are -/
def State.fdeep : State → Nat
  | .pt _ => 1
  | .co f _ _ _ _ => f.deep
  | .over _ _ _ => 0
theorem state_head {S : State} (h : S.isOver = false) : ∃ (f : Form) (xs : List Val), S.enc = .tup xs ∧ L2.atI xs 0 = some f.enc ∧ f = S.form := by
  cases S with
  | pt s => exact ⟨.point, _, rfl, at_0, rfl⟩
  | co f s m i inner => exact ⟨f, _, rfl, at_0, rfl⟩
  | over _ _ _ => cases h
theorem good_deep {S : State} (h : S.good) : S.form.deep ≤ 4 := by
  cases S with
  | pt s => simp [State.form, Form.deep]
  | co f s m i inner => exact h.2.2.1
  | over _ _ _ => simp [State.form, Form.deep]
theorem cut4 (a b c d e : Val) : cut [a, b, c, d, e] none (some 4) = [a, b, c, d] := by
  simp [cut, HT.sIx]
theorem behind_good {f : Form} (hf : f ≠ .point) (ok : f.ok) (hd : f.deep ≤ 4) {s m i : Int} (h0 : 0 ≤ m) (h1 : 0 ≤ i) (hs : serOk f m i) (hs1 : s = 0 ∨ s = 1) {inner : State} (hi : inner.first = 0 ∨ inner.first = 1) {w t : Int} (hw : w = 0 ∨ w = 1) (ht : t = 0 ∨ t = 1) : (behindS f s m i inner w t).good := by
  unfold behindS
  cases hdc : f.decided m i w with
  | some who =>
    refine ⟨?_, hi⟩
    unfold Form.decided at hdc
    split at hdc
    · cases hdc; exact hw
    · unfold Form.wonBy at hdc
      split at hdc
      · cases hdc
      · cases hdc; split
        · exact .inl rfl
        · exact .inr rfl
  | none =>
    have hs2 := serOk_next h0 h1 hs hdc
    have hn2 := later_nonneg (w := w) h0 h1
    have rm := series_room ok hn2.1 hn2.2 hs2
    have q := inner_deep hf rm
    refine ⟨hf, ok, hd, hs1, hn2.1, hn2.2, hs2, begun_form _ _, begun_over _ _, good_begun 4 _ _ (by omega) (q.2 ok) (by omega) ?_⟩
    unfold servedBy
    split
    · exact hw
    · omega
    · exact hs1
    · split <;> omega
theorem good_first {S : State} (h : S.good) : S.first = 0 ∨ S.first = 1 := by
  cases S with
  | pt s => exact h
  | co f s m i inner => exact h.2.2.2.1
  | over w t l => exact h.2
theorem pushed_good : ∀ {S : State} {w : Int}, S.good → S.isOver = false → (w = 0 ∨ w = 1) → (pushed S w).1.good ∧ ((pushed S w).1.isOver = false → (pushed S w).1.form = S.form)
  | .pt s, w, h, _, hw => ⟨⟨hw, h⟩, fun z => by cases z⟩
  | .co f s m i inner, w, h, _, hw => by
    obtain ⟨hf, ok, hd, hs1, h0, h1, hs, hfm, ho, hg⟩ := h
    obtain ⟨ih1, ih2⟩ := pushed_good hg ho hw
    show (liftedS f s m i inner (pushed inner w)).1.good ∧ ((liftedS f s m i inner (pushed inner w)).1.isOver = false → (liftedS f s m i inner (pushed inner w)).1.form = f)
    unfold liftedS
    cases e : (pushed inner w).1 with
    | pt s' =>
      rw [e] at ih1 ih2
      exact ⟨⟨hf, ok, hd, hs1, h0, h1, hs, (ih2 rfl).trans hfm, rfl, ih1⟩, fun _ => rfl⟩
    | co f' s' m' i' inner' =>
      rw [e] at ih1 ih2
      exact ⟨⟨hf, ok, hd, hs1, h0, h1, hs, (ih2 rfl).trans hfm, rfl, ih1⟩, fun _ => rfl⟩
    | over w' t' l' =>
      rw [e] at ih1
      refine ⟨behind_good hf ok hd h0 h1 hs hs1 (good_first hg) ih1.1 ih1.2, fun z => ?_⟩
      show (behindS f s m i inner w' t').form = f
      have z : (behindS f s m i inner w' t').isOver = false := z
      unfold behindS at z ⊢
      cases hdc : f.decided m i w' with
      | some who => rw [hdc] at z; cases z
      | none => rfl
  | .over _ _ _, w, h, z, hw => by cases z
/-- how deep a state is -/
def State.lev : State → Nat
  | .co _ _ _ _ inner => inner.lev + 1
  | _ => 1
theorem lev_le : ∀ {S : State}, S.good → S.isOver = false → S.lev ≤ S.form.deep
  | .pt s, _, _ => by simp [State.lev, State.form, Form.deep]
  | .co f s m i inner, h, _ => by
    obtain ⟨hf, ok, hd, hs1, h0, h1, hs, hfm, ho, hg⟩ := h
    have ih := lev_le hg ho
    have q := inner_deep hf (series_room ok h0 h1 hs)
    rw [hfm] at ih
    show inner.lev + 1 ≤ f.deep
    omega
  | .over _ _ _, _, z => by cases z
theorem e_lifted (P : Pg T gl) {n : Nat} (hn : 9 ≤ n) {f : Form} (hf : f ≠ .point) (ok : f.ok) (hd : f.deep ≤ 4) (s m i : Int) (h0 : 0 ≤ m) (h1 : 0 ≤ i) (hs : serOk f m i) (inner : State) (ho : inner.isOver = false) (p : State × Int) (hp : p.1.good) (st : Store) :
    callN T gl W n f_lifted [(State.co f s m i inner).enc, p.1.enc, .int p.2] st = .ok (.tup [(liftedS f s m i inner p).1.enc, .int (liftedS f s m i inner p).2]) st := by
  rw [call_eq P.lifted (by omega)]
  obtain ⟨S, c⟩ := p
  have fin : ∀ (X : State) (k : Int), gc st (.tup [X.enc, .int k]) st = .ok (.tup [X.enc, .int k]) st := fun X k => gc_self (by simp [low_state])
  have np : ∀ (S : State), S.good → S.isOver = false → evalS ⟨callN T gl W (n - 1), gl, W⟩ c_lifted.body [some (State.co f s m i inner).enc, some S.enc, some (.int c), none] st = .ok (.ret (.tup [(State.co f s m i S).enc, .int c]), [some (State.co f s m i inner).enc, some S.enc, some (.int c), none]) st := fun S hg ho => by
    obtain ⟨g, xs, x1, x2, x3⟩ := state_head ho
    have := good_deep hg
    have q := ne_over (f := g) (by rw [x3]; omega) st
    simp [c_lifted, State.enc, x1, x2, q, isNil, cut4]
  cases S with
  | pt s' =>
    have q := np (.pt s') hp rfl
    have z := fin (.co f s m i (.pt s')) c
    simp only [c_lifted] at q
    simp [runBody, c_lifted] at q ⊢
    simp [q, liftedS, z]
  | co f' s' m' i' inner' =>
    have q := np (.co f' s' m' i' inner') hp rfl
    have z := fin (.co f s m i (.co f' s' m' i' inner')) c
    simp only [c_lifted] at q
    simp [runBody, c_lifted] at q ⊢
    simp [q, liftedS, z]
  | over w t l =>
    have e1 := e_behind (W := W) P (n := n - 1) (by omega) hf ok hd s m i h0 h1 hs inner ho w t st
    have z := fin (behindS f s m i inner w t) (c + if (behindS f s m i inner w t).isOver then 1 else 0)
    have o1 : ∀ l, (State.over w t l).enc = .tup [.str s_over, .int w, .int t, encP l] := fun _ => rfl
    cases hb : (behindS f s m i inner w t).isOver with
    | true =>
      have : ∃ a b d, behindS f s m i inner w t = .over a b d := by
        cases q : behindS f s m i inner w t with
        | over a b d => exact ⟨a, b, d, rfl⟩
        | _ => rw [q] at hb; cases hb
      obtain ⟨a, b, d, hx⟩ := this
      rw [hx] at e1 z
      simp only [o1, State.enc] at e1 z
      simp [State.isOver] at z
      simp [runBody, c_lifted, o1, e1, liftedS, hx, State.isOver, z, State.enc]
    | false =>
      obtain ⟨g, xs, x1, x2, x3⟩ := state_head hb
      have hgd : g.deep ≤ 12 := by
        rw [x3]
        unfold behindS at hb ⊢
        cases hdc : f.decided m i w with
        | some who => rw [hdc] at hb; cases hb
        | none => simp [State.form]; omega
      have q := eq_over hgd st
      rw [hb] at z
      rw [x1] at e1 z
      simp at z
      simp [runBody, c_lifted, o1, e1, liftedS, hb, x1, x2, q, z]
theorem e_pushed (P : Pg T gl) : ∀ (S : State) (w : Int) (n : Nat) (st : Store), S.good → S.isOver = false → (w = 0 ∨ w = 1) → S.lev + 10 ≤ n →
    callN T gl W n f_pushed [S.enc, .int w] st = .ok (.tup [(pushed S w).1.enc, .int (pushed S w).2]) st
  | .pt s, w, n, st, h, _, hw, hn => by
    rw [call_eq P.pushed (by omega)]
    simp [runBody, c_pushed, State.enc, pushed, encP]
    rw [gc_self (by simp)]
  | .co f s m i inner, w, n, st, h, _, hw, hn => by
    have hG := h
    obtain ⟨hf, ok, hd, hs1, h0, h1, hs, hfm, ho, hg⟩ := h
    rw [call_eq P.pushed (by omega)]
    have hn : inner.lev + 1 + 10 ≤ n := hn
    have ih := e_pushed P inner w (n - 1) st hg ho hw (by omega)
    have q := pushed_good hg ho hw
    have e1 := e_lifted (W := W) P (n := n - 1) (by omega) hf ok hd s m i h0 h1 hs inner ho (pushed inner w) q.1 st
    have z : gc st (.tup [(liftedS f s m i inner (pushed inner w)).1.enc, .int (liftedS f s m i inner (pushed inner w)).2]) st = .ok (.tup [(liftedS f s m i inner (pushed inner w)).1.enc, .int (liftedS f s m i inner (pushed inner w)).2]) st := gc_self (by simp [low_state])
    simp only [State.enc] at e1
    simp [runBody, c_pushed, State.enc, ih, setAll, e1, pushed, z]
  | .over _ _ _, w, n, st, h, z, hw, hn => by cases z
end

/-! ### rows -/
def pairsS : State → List (Int × Int)
  | .over _ _ none => []
  | .over _ _ (some p) => [p]
  | .pt _ => []
  | .co _ _ m i inner => (m, i) :: pairsS inner
def serverS : State → Option Int
  | .over _ _ _ => none
  | .pt s => some s
  | .co _ _ _ _ inner => serverS inner
def winnerS : State → Option Int
  | .over w _ _ => some w
  | _ => none
def encO : Option Int → Val
  | none => .none
  | some k => .int k
def encPs (ps : List (Int × Int)) : Val := .tup (ps.map fun p => .tup [.int p.1, .int p.2])
def plays (S : State) (row : List Int) : State := row.foldl (fun S w => (pushed S w).1) S
/-- no point behind the end -/
def goesOn : State → List Int → Prop
  | _, [] => True
  | S, w :: r => S.isOver = false ∧ goesOn (pushed S w).1 r
def sides (row : List Int) : Prop := ∀ w ∈ row, w = 0 ∨ w = 1
def FormOk (f : Form) : Prop := f.ok ∧ f.deep ≤ 4 ∧ f.size ≤ 20
def RowOk (st : Store) (k : Nat) (row : List Int) : Prop := st[k]? = some (.lst (row.map Val.int)) ∧ row.length ≤ 500 ∧ sides row
theorem plays_good : ∀ (row : List Int) (S : State), S.good → sides row → goesOn S row → (plays S row).good
  | [], S, h, _, _ => h
  | w :: r, S, h, hr, hg => plays_good r (pushed S w).1 (pushed_good h hg.1 (hr w List.mem_cons_self)).1 (fun x hx => hr x (List.mem_cons_of_mem _ hx)) hg.2
section
variable {T : Tab} {gl : Str → Option Val} {W : Nat}
theorem low_ints {n : Nat} (row : List Int) : lowL n (row.map Val.int) = true := lowL_all.mpr fun x hx => by
  obtain ⟨k, _, rfl⟩ := List.mem_map.mp hx
  rfl
theorem low_encO {n : Nat} (o : Option Int) : (encO o).lowB n = true := by cases o <;> rfl
theorem low_encPs {n : Nat} (ps : List (Int × Int)) : (encPs ps).lowB n = true := lowL_all.mpr fun x hx => by
  obtain ⟨k, _, rfl⟩ := List.mem_map.mp hx
  rfl
theorem e_look_side (P : Pg T gl) {n : Nat} (hn : 2 ≤ n) {s : Int} (hs : s = 0 ∨ s = 1) (st : Store) : callN T gl W n f_look_side [.int s] st = .ok .none st := by
  rw [call_eq P.look_side (by omega)]
  have h1 : 0 ≤ s ∧ s ≤ 1 := by omega
  simp [runBody, c_look_side, e_is_number_int P (show 1 ≤ n - 1 by omega), h1]
theorem e_look_row (P : Pg T gl) {n : Nat} (hn : 2 ≤ n) {k : Nat} {row : List Int} {st : Store} (h : RowOk st k row) : callN T gl W n f_look_row [.ref k] st = .ok .none st := by
  rw [call_eq P.look_row (by omega)]
  obtain ⟨h1, h2, h3⟩ := h
  have hk : k < st.length := (List.getElem?_eq_some_iff.mp h1).1
  have g1 : ∀ acc, (st ++ [Cell.lst acc])[k]? = some (.lst (row.map Val.int)) := fun acc => by rw [List.getElem?_append_left hk]; exact h1
  have k1 := comp_map (f := runC ⟨callN T gl W (n - 1), gl, W⟩ 1 .nil (.call f_is_number (.cons (.var 1) (.cons (.int_ 0) (.cons (.int_ 1) .nil)))) [some (.ref k), none]) (ok := stays .seq (.ref k) (row.map Val.int)) (D := st.length) (pre := st) (enc := Val.int) (g := fun _ => Val.bool true) rfl (fun acc => listAt_lst (g1 acc)) row []
    (fun w hw acc => by
      have h1 : 0 ≤ w ∧ w ≤ 1 := by have := h3 w hw; omega
      simp [runC, isNil, e_is_number_int P (show 1 ≤ n - 1 by omega), h1]) (small_line (by simp; omega))
  rw [List.nil_append] at k1
  have h4 : listAt (st ++ [Cell.lst (row.map fun _ => Val.bool true)]) st.length = some (row.map fun _ => Val.bool true) := listAt_lst (by simp)
  have h5 : ((row.length : Int) > 500) = False := eq_false (by omega)
  have h6 : ((500 : Int) < row.length) = False := eq_false (by omega)
  simp [runBody, c_look_row, i_lst h1, l_ref (listAt_lst h1), P.g_MOST_POINTS, h6, srcItems, listAt_lst h1, k1, bi_all h4 (allBools_map (f := fun _ => true) row)]
theorem pairs_len : ∀ S : State, (pairsS S).length ≤ S.lev
  | .over _ _ none => by simp [pairsS]
  | .over _ _ (some _) => by simp [pairsS, State.lev]
  | .pt _ => by simp [pairsS]
  | .co _ _ _ _ inner => by have := pairs_len inner; simp [pairsS, State.lev]; omega
theorem e_pairs (P : Pg T gl) : ∀ (S : State) (n : Nat) (st : Store), S.good → S.lev ≤ 1000 → S.lev ≤ n → callN T gl W n f_pairs [S.enc] st = .ok (encPs (pairsS S)) st
  | .over w t none, n, st, _, _, hn => by
    have : 1 ≤ n := hn
    rw [call_eq P.pairs (by omega)]
    simp [runBody, c_pairs, State.enc, encP, encPs, pairsS]
    rw [gc_self (by simp)]
  | .over w t (some p), n, st, _, _, hn => by
    have : 1 ≤ n := hn
    rw [call_eq P.pairs (by omega)]
    simp [runBody, c_pairs, State.enc, encP, encPs, pairsS]
    rw [gc_self (by simp)]
  | .pt s, n, st, h, _, hn => by
    have : 1 ≤ n := hn
    rw [call_eq P.pairs (by omega)]
    have q := eq_over (f := .point) (by simp [Form.deep]) st
    simp [runBody, c_pairs, State.enc, q, encPs, pairsS]
    rw [gc_self (by simp)]
  | .co f s m i inner, n, st, h, hl, hn => by
    obtain ⟨hf, ok, hd, hs1, h0, h1, hs, hfm, ho, hg⟩ := h
    have hn : inner.lev + 1 ≤ n := hn
    have hl : inner.lev + 1 ≤ 1000 := hl
    rw [call_eq P.pairs (by omega)]
    have q := eq_over (f := f) (by omega) st
    have ih := e_pairs P inner (n - 1) st hg (by omega) (by omega)
    have hp := pairs_len inner
    have b : 1 + (pairsS inner).length ≤ sizeLine := small_line (by omega)
    have z : gc st (encPs (pairsS (.co f s m i inner))) st = .ok (encPs (pairsS (.co f s m i inner))) st := gc_self (low_encPs _)
    simp only [encPs, pairsS, List.map_cons] at ih z
    simp [runBody, c_pairs, State.enc, q, encPs, pairsS, ih, b, z]
theorem e_server_of (P : Pg T gl) : ∀ (S : State) (n : Nat) (st : Store), S.good → S.lev ≤ n → callN T gl W n f_server_of [S.enc] st = .ok (encO (serverS S)) st
  | .over w t l, n, st, _, hn => by
    have : 1 ≤ n := hn
    rw [call_eq P.server_of (by omega)]
    simp [runBody, c_server_of, State.enc, encO, serverS]
  | .pt s, n, st, h, hn => by
    have : 1 ≤ n := hn
    rw [call_eq P.server_of (by omega)]
    have q := eq_over (f := .point) (by simp [Form.deep]) st
    simp [runBody, c_server_of, State.enc, q, encO, serverS]
  | .co f s m i inner, n, st, h, hn => by
    obtain ⟨hf, ok, hd, hs1, h0, h1, hs, hfm, ho, hg⟩ := h
    have hn : inner.lev + 1 ≤ n := hn
    rw [call_eq P.server_of (by omega)]
    have q := eq_over (f := f) (by omega) st
    have ih := e_server_of P inner (n - 1) st hg (by omega)
    have z : gc st (encO (serverS inner)) st = .ok (encO (serverS inner)) st := gc_self (low_encO _)
    simp [runBody, c_server_of, State.enc, q, serverS, ih, z]
theorem e_winner_of (P : Pg T gl) {n : Nat} (hn : 1 ≤ n) (S : State) (h : S.good) (st : Store) : callN T gl W n f_winner_of [S.enc] st = .ok (encO (winnerS S)) st := by
  rw [call_eq P.winner_of (by omega)]
  cases S with
  | over w t l => simp [runBody, c_winner_of, State.enc, encO, winnerS]
  | pt s =>
    have q := eq_over (f := .point) (by simp [Form.deep]) st
    simp [runBody, c_winner_of, State.enc, q, encO, winnerS]
  | co f s m i inner =>
    have q := eq_over (f := f) (by have := h.2.2.1; omega) st
    simp [runBody, c_winner_of, State.enc, q, encO, winnerS]
theorem src_range {m : Nat} (h : m ≤ 1000000) {st : Store} : srcItems .range (.tup [.int m]) st = some ((List.range m).map fun (j : Nat) => Val.int (j : Int)) := by
  simp only [srcItems]
  rw [if_pos (by omega), Int.toNat_natCast]
theorem for_of {F : Fns} {k : Src} {is : List Nat} {src : CE} {a : CS} {env : Env} {st s1 : Store} {v : Val} {xs : List Val} (h1 : evalE F src env st = .ok v s1) (h2 : srcItems k v s1 = some xs) : evalS F (.for_ k is src a) env st = forLoop is (stays k v xs) (runS F a) xs env s1 := by
  rw [es_for, h1, bind_ok, h2]
theorem comp_of {F : Fns} {k : Src} {i : Nat} {src cond elt : CE} {env : Env} {st s1 : Store} {v : Val} {xs : List Val} (h1 : evalE F src env st = .ok v s1) (h2 : srcItems k v s1 = some xs) : evalE F (.comp k i src cond elt) env st = compLoop (runC F i cond elt env) (stays k v xs) s1.length xs (s1 ++ [.lst []]) := by
  rw [ev_comp, h1, bind_ok, h2]
/-- one round of a for -/
theorem for_next {is : List Nat} {ok : Store → Prop} {b : Env → Store → Res (Flow × Env)} {x : Val} {xs : List Val} {env env1 env2 : Env} {st s2 : Store} (h : ok st) (hb : bindTo is x env = some env1) (hr : b env1 st = .ok (.next, env2) s2) : forLoop is ok b (x :: xs) env st = forLoop is ok b xs env2 s2 := by
  simp only [forLoop]
  rw [if_pos h, hb]
  simp only [hr, bindX_ok]
theorem for_end {is : List Nat} {ok : Store → Prop} {b : Env → Store → Res (Flow × Env)} {env : Env} {st : Store} (h : ok st) : forLoop is ok b [] env st = .ok (.next, env) st := by
  simp only [forLoop]
  rw [if_pos h]
theorem for_ret {is : List Nat} {ok : Store → Prop} {b : Env → Store → Res (Flow × Env)} {x v : Val} {xs : List Val} {env env1 env2 : Env} {st s2 : Store} (h : ok st) (hb : bindTo is x env = some env1) (hr : b env1 st = .ok (.ret v, env2) s2) : forLoop is ok b (x :: xs) env st = .ok (.ret v, env2) s2 := by
  simp only [forLoop]
  rw [if_pos h, hb]
  simp only [hr, bindX_ok]
def playB : CS := (.seq (.if_ (.cmp .eq (.ix (.var 3) (.int_ 0)) (.str_ s_over)) (.seq (.raise1 "Over" (.var 4)) .skip) .skip) (.seq (.set 3 (.ix (.call f_pushed (.cons (.var 3) (.cons (.ix (.var 2) (.var 4)) .nil))) (.int_ 0))) .skip))
theorem played_loop (P : Pg T gl) {n : Nat} (hn : 14 ≤ n) {row : List Int} {k : Nat} {st : Store} {ok : Store → Prop} (hok : ok st) (hrow : st[k]? = some (.lst (row.map Val.int))) (a b : Option Val) : ∀ (suf pre : List Int) (S : State) (x : Option Val), row = pre ++ suf → S.good → sides suf → goesOn S suf →
    ∃ y, forLoop [4] ok (runS ⟨callN T gl W n, gl, W⟩ playB) ((List.range' pre.length suf.length).map fun (j : Nat) => Val.int (j : Int)) [a, b, some (.ref k), some S.enc, x] st = .ok (.next, [a, b, some (.ref k), some (plays S suf).enc, y]) st
  | [], pre, S, x, _, _, _, _ => ⟨x, for_end hok⟩
  | w :: suf, pre, S, x, hr, hg, hw, hgo => by
    have hw1 := hw w List.mem_cons_self
    have hp := pushed_good hg hgo.1 hw1
    obtain ⟨y, hy⟩ := played_loop P hn hok hrow a b suf (pre ++ [w]) (pushed S w).1 (some (.int pre.length)) (by simp [hr]) hp.1 (fun z hz => hw z (List.mem_cons_of_mem _ hz)) hgo.2
    refine ⟨y, ?_⟩
    obtain ⟨f, xs, x1, x2, x3⟩ := state_head hgo.1
    have hd := good_deep hg
    have hl := lev_le hg hgo.1
    have q := eq_over (f := f) (by rw [x3]; omega) st
    have e1 := e_pushed (W := W) P S w n st hg hgo.1 hw1 (by omega)
    rw [x1] at e1
    have e2 : L2.atI (row.map Val.int) (pre.length : Int) = some (.int w) := at_nat (by simp [hr])
    have e3 := ix_lst (k := (pre.length : Int)) (listAt_lst hrow)
    rw [e2] at e3
    rw [show (w :: suf).length = suf.length + 1 from rfl, List.range'_succ, List.map_cons]
    have body : runS ⟨callN T gl W n, gl, W⟩ playB [a, b, some (.ref k), some S.enc, some (.int pre.length)] st = .ok (.next, [a, b, some (.ref k), some (pushed S w).1.enc, some (.int pre.length)]) st := by
      simp [runS, playB, x1, x2, q, e1, e3]
    rw [for_next hok rfl body]
    have : (pre ++ [w]).length = pre.length + 1 := by simp
    rw [this] at hy
    exact hy
theorem e_played (P : Pg T gl) {n : Nat} (hn : 15 ≤ n) {f : Form} (hf : FormOk f) {s : Int} (hs : s = 0 ∨ s = 1) {k : Nat} {row : List Int} {st : Store} (h : RowOk st k row) (hg : goesOn (begun f s) row) : callN T gl W n f_played [f.enc, .int s, .ref k] st = .ok (plays (begun f s) row).enc st := by
  rw [call_eq P.played (by omega)]
  have e1 := e_begun (W := W) P 4 f s (n - 1) st hf.2.1 hf.1 (by omega)
  have gb := good_begun 4 f s (by have := hf.2.1; omega) hf.1 (by have := hf.2.1; omega) hs
  obtain ⟨y, hy⟩ := played_loop (W := W) P (n := n - 1) (by omega) (ok := stays .range (.tup [.int row.length]) ((List.range row.length).map fun (j : Nat) => Val.int (j : Int))) trivial h.1 (some f.enc) (some (.int s)) row [] (begun f s) none rfl gb h.2.2 hg
  rw [List.length_nil, ← List.range_eq_range'] at hy
  have hr : srcItems .range (.tup [.int row.length]) st = some ((List.range row.length).map fun (j : Nat) => Val.int (j : Int)) := by
    have := h.2.1
    exact src_range (by omega)
  have z : gc st (plays (begun f s) row).enc st = .ok (plays (begun f s) row).enc st := gc_self (low_state _ _)
  have hl : evalE ⟨callN T gl W (n - 1), gl, W⟩ (.cons (.bi .len (.cons (.var 2) .nil)) .nil) [some f.enc, some (.int s), some (.ref k), some (begun f s).enc, none] st = .ok (.tup [.int row.length]) st := by
    simp [l_ref (listAt_lst h.1)]
  have hff := for_of (is := [4]) (a := playB) hl hr
  rw [hy] at hff
  simp only [playB] at hff
  simp [-es_for, runBody, c_played, e1, hff, z]
theorem e_state_of (P : Pg T gl) {n : Nat} (hn : 20 ≤ n) {f : Form} (hf : FormOk f) {s : Int} (hs : s = 0 ∨ s = 1) {k : Nat} {row : List Int} {st : Store} (h : RowOk st k row) (hg : goesOn (begun f s) row) : callN T gl W n f_state_of [f.enc, .int s, .ref k] st = .ok (plays (begun f s) row).enc st := by
  rw [call_eq P.state_of (by omega)]
  have e1 := e_look_form (W := W) P (n := n - 1) (by omega) f hf.1 hf.2.1 hf.2.2 st
  have e2 := e_look_side (W := W) P (n := n - 1) (by omega) hs st
  have e3 := e_look_row (W := W) P (n := n - 1) (by omega) h
  have e4 := e_played (W := W) P (n := n - 1) (by omega) hf hs h hg
  have z : gc st (plays (begun f s) row).enc st = .ok (plays (begun f s) row).enc st := gc_self (low_state _ _)
  simp [runBody, c_state_of, e1, e2, e3, e4, z]
theorem good_plays {f : Form} (hf : FormOk f) {s : Int} (hs : s = 0 ∨ s = 1) {row : List Int} (hr : sides row) (hg : goesOn (begun f s) row) : (plays (begun f s) row).good :=
  plays_good row _ (good_begun 4 f s (by have := hf.2.1; omega) hf.1 (by have := hf.2.1; omega) hs) hr hg
theorem lev_good {S : State} (h : S.good) : S.lev ≤ 4 := by
  cases e : S.isOver with
  | false => have := lev_le h e; have := good_deep h; omega
  | true => cases S with
    | over _ _ _ => simp [State.lev]
    | _ => cases e
theorem e_standing (P : Pg T gl) {n : Nat} (hn : 21 ≤ n) {f : Form} (hf : FormOk f) {s : Int} (hs : s = 0 ∨ s = 1) {k : Nat} {row : List Int} {st : Store} (h : RowOk st k row) (hg : goesOn (begun f s) row) : callN T gl W n f_standing [f.enc, .int s, .ref k] st = .ok (encPs (pairsS (plays (begun f s) row))) st := by
  rw [call_eq P.standing (by omega)]
  have e1 := e_state_of (W := W) P (n := n - 1) (by omega) hf hs h hg
  have gp := good_plays hf hs h.2.2 hg
  have l := lev_good gp
  have e2 := e_pairs (W := W) P _ (n - 1) st gp (by omega) (by omega)
  have z : gc st (encPs (pairsS (plays (begun f s) row))) st = _ := gc_self (low_encPs _)
  simp [runBody, c_standing, e1, e2, z]
theorem e_server (P : Pg T gl) {n : Nat} (hn : 21 ≤ n) {f : Form} (hf : FormOk f) {s : Int} (hs : s = 0 ∨ s = 1) {k : Nat} {row : List Int} {st : Store} (h : RowOk st k row) (hg : goesOn (begun f s) row) : callN T gl W n f_server [f.enc, .int s, .ref k] st = .ok (encO (serverS (plays (begun f s) row))) st := by
  rw [call_eq P.server (by omega)]
  have e1 := e_state_of (W := W) P (n := n - 1) (by omega) hf hs h hg
  have gp := good_plays hf hs h.2.2 hg
  have l := lev_good gp
  have e2 := e_server_of (W := W) P _ (n - 1) st gp (by omega)
  have z : gc st (encO (serverS (plays (begun f s) row))) st = _ := gc_self (low_encO _)
  simp [runBody, c_server, e1, e2, z]
theorem e_winner (P : Pg T gl) {n : Nat} (hn : 21 ≤ n) {f : Form} (hf : FormOk f) {s : Int} (hs : s = 0 ∨ s = 1) {k : Nat} {row : List Int} {st : Store} (h : RowOk st k row) (hg : goesOn (begun f s) row) : callN T gl W n f_winner [f.enc, .int s, .ref k] st = .ok (encO (winnerS (plays (begun f s) row))) st := by
  rw [call_eq P.winner (by omega)]
  have e1 := e_state_of (W := W) P (n := n - 1) (by omega) hf hs h hg
  have gp := good_plays hf hs h.2.2 hg
  have e2 := e_winner_of (W := W) P (n := n - 1) (by omega) _ gp st
  have z : gc st (encO (winnerS (plays (begun f s) row))) st = _ := gc_self (low_encO _)
  simp [runBody, c_winner, e1, e2, z]
end

/-! ### numbers drawn from the script -/
def cellF (ns : List Int) (k : Nat) : Int := if ns = [] then 0 else ns.getD (k % ns.length) 0
def mixF (ns : List Int) (k : Nat) : Int :=
  let a := (cellF ns k + 104729 * ((k : Int) + 1)) % 4294967291
  let b := a ^ 5 % 4294967279
  (b / 64 * 69621 + b) % 4294967231
/-- the number drawn k-th, below m -/
def drawF (ns : List Int) (k : Nat) (m : Int) : Int := mixF ns k / 8 % m
theorem draw_lt (ns : List Int) (k : Nat) {m : Int} (h : 0 < m) : 0 ≤ drawF ns k m ∧ drawF ns k m < m := ⟨Int.emod_nonneg _ (by omega), Int.emod_lt_of_pos _ h⟩
/-- a store of a law: the script, the town, the rest -/
def base (ns : List Int) (d : Nat) (rest : Store) : Store := .ro (ns.map Val.int) :: .lst (List.replicate d (.int 0)) :: rest
@[simp] theorem base_length (ns : List Int) (d : Nat) (rest : Store) : (base ns d rest).length = rest.length + 2 := rfl
@[simp] theorem base_app (ns : List Int) (d : Nat) (rest g : Store) : base ns d rest ++ g = base ns d (rest ++ g) := rfl
@[simp] theorem base_0 (ns : List Int) (d : Nat) (rest : Store) : (base ns d rest)[0]? = some (.ro (ns.map Val.int)) := rfl
@[simp] theorem base_1 (ns : List Int) (d : Nat) (rest : Store) : (base ns d rest)[1]? = some (.lst (List.replicate d (.int 0))) := rfl
@[simp] theorem base_get (ns : List Int) (d : Nat) (rest : Store) (k : Nat) : (base ns d rest)[k + 2]? = rest[k]? := rfl
theorem low_zeros (n d : Nat) : lowL n (List.replicate d (.int 0)) = true := lowL_all.mpr fun x hx => by rw [(List.mem_replicate.mp hx).2]; rfl
theorem merge_base (ns : List Int) (n d e : Nat) (rest g : Store) : mergeS n (base ns d rest) (base ns e (rest ++ g)) = some (base ns e rest) := by
  unfold base
  unfold mergeS
  rw [if_pos (.inl rfl)]
  unfold mergeS
  rw [if_pos (.inr (low_zeros n e)), mergeS_app]
  rfl
theorem gc_base {ns : List Int} {d e : Nat} {rest g : Store} {v : Val} (h : v.lowB (rest.length + 2) = true) : gc (base ns d rest) v (base ns e (rest ++ g)) = .ok v (base ns e rest) := by
  unfold gc
  rw [merge_base]
  simp only
  exact if_pos h
theorem gc_base0 {ns : List Int} {d e : Nat} {rest : Store} {v : Val} (h : v.lowB (rest.length + 2) = true) : gc (base ns d rest) v (base ns e rest) = .ok v (base ns e rest) := by
  have := gc_base (ns := ns) (d := d) (e := e) (rest := rest) (g := []) h
  rwa [List.append_nil] at this
section
variable {T : Tab} {gl : Str → Option Val} {W : Nat}
theorem e_cell (P : Pg T gl) {n : Nat} (hn : 1 ≤ n) (ns : List Int) (k : Nat) {st : Store} (h : st[0]? = some (.ro (ns.map Val.int))) : callN T gl W n f__law_cell [.ref 0, .int k] st = .ok (.int (cellF ns k)) st := by
  rw [call_eq P._law_cell hn]
  have h1 := listAt_ro h
  by_cases c : ns = []
  · have t : testV (.ref 0) st = .ok false st := by
      show (match (listAt st 0).map fun xs => !xs.isEmpty with | some b => Res.ok b st | none => .stuck) = _
      rw [h1, c]; rfl
    simp [runBody, c__law_cell, t, cellF, c]
  · have hp : 0 < ns.length := List.length_pos_iff.mpr c
    have t : testV (.ref 0) st = .ok true st := by
      show (match (listAt st 0).map fun xs => !xs.isEmpty with | some b => Res.ok b st | none => .stuck) = _
      rw [h1]
      have : (ns.map Val.int).isEmpty = false := by cases ns with | nil => exact absurd rfl c | cons _ _ => rfl
      simp [this]
    have hm := b_mod (st := st) (i := k) (j := ns.length) (by omega)
    have e : ((k : Int) % (ns.length : Int)) = ((k % ns.length : Nat) : Int) := by omega
    have hlt : k % ns.length < ns.length := Nat.mod_lt _ hp
    have hx := ix_lst (k := ((k % ns.length : Nat) : Int)) h1
    rw [at_nat (v := .int (ns.getD (k % ns.length) 0)) (by simp [hlt])] at hx
    rw [← e] at hx
    simp [runBody, c__law_cell, t, l_ref h1, hm, hx, cellF, c]
theorem e_mix (P : Pg T gl) {n : Nat} (hn : 2 ≤ n) (ns : List Int) (k : Nat) {st : Store} (h : st[0]? = some (.ro (ns.map Val.int))) : callN T gl W n f__law_mix [.ref 0, .int k] st = .ok (.int (mixF ns k)) st := by
  rw [call_eq P._law_mix (by omega)]
  have e1 := e_cell (W := W) P (n := n - 1) (by omega) ns k h
  have e2 : binop .mul (.int 104729) (.int ((k : Int) + 1)) st = _ := b_mul (.inl (by decide))
  have e3 := b_mod (st := st) (i := cellF ns k + 104729 * ((k : Int) + 1)) (j := 4294967291) (by decide)
  generalize ha : (cellF ns k + 104729 * ((k : Int) + 1)) % 4294967291 = a at e3
  have ha1 : 0 ≤ a ∧ a < 4294967291 := by subst ha; exact ⟨Int.emod_nonneg _ (by decide), Int.emod_lt_of_pos _ (by decide)⟩
  have e4 : binop .pow (.int a) (.int 5) st = .ok (.int (a ^ 5)) st := b_pow (j := 5) ⟨by decide, by decide, by omega⟩
  have e5 := b_mod (st := st) (i := a ^ 5) (j := 4294967279) (by decide)
  generalize hb : a ^ 5 % 4294967279 = b at e5
  have e6 := b_fdiv (st := st) (i := b) (j := 64) (by decide) (by decide)
  have e7 : binop .mul (.int (b / 64)) (.int 69621) st = _ := b_mul (.inr (by decide))
  have e8 := b_mod (st := st) (i := b / 64 * 69621 + b) (j := 4294967231) (by decide)
  simp [runBody, c__law_mix, e1, e2, e3, e4, e5, e6, e7, e8]
  simp only [mixF, ha, hb]
theorem e_draw (P : Pg T gl) {n : Nat} (hn : 3 ≤ n) (ns : List Int) {d : Nat} (hd : d ≤ 100000) (rest : Store) {m : Int} (hm : 0 < m) : callN T gl W n f__law_draw [.ref 0, .ref 1, .int m] (base ns d rest) = .ok (.int (drawF ns (d + 1) m)) (base ns (d + 1) rest) := by
  rw [call_eq P._law_draw (by omega)]
  have e0 : mtOk .append (.ref 1) (base ns d rest) = true := mk_list (listAt_lst (base_1 ns d rest)) (by decide)
  have e1 := m_append (st := base ns d rest) (y := .int 0) (base_1 ns d rest) (by rw [List.length_replicate, sizeLine_eq]; omega)
  have e2 : (base ns d rest).set 1 (.lst (List.replicate d (.int 0) ++ [.int 0])) = base ns (d + 1) rest := by
    unfold base; rw [List.replicate_succ']; rfl
  rw [e2] at e1
  have e3 := l_ref (listAt_lst (base_1 ns (d + 1) rest))
  rw [List.length_replicate] at e3
  have e4 := e_mix (W := W) P (n := n - 1) (by omega) ns (d + 1) (base_0 ns (d + 1) rest)
  have e5 := b_fdiv (st := base ns (d + 1) rest) (i := mixF ns (d + 1)) (j := 8) (by decide) (by decide)
  have e6 := b_mod (st := base ns (d + 1) rest) (i := mixF ns (d + 1) / 8) hm
  have z : gc (base ns d rest) (.int (mixF ns (d + 1) / 8 % m)) (base ns (d + 1) rest) = _ := gc_base0 rfl
  simp at e4
  simp [runBody, c__law_draw, e0, e1, e3, e4, e5, e6, z, drawF]
theorem e_pick (P : Pg T gl) {n : Nat} (hn : 4 ≤ n) (ns : List Int) {d : Nat} (hd : d ≤ 100000) (rest : Store) {k : Nat} {xs : List Val} (hk : rest[k]? = some (.lst xs)) (hx : 0 < xs.length) (hlow : lowL (rest.length + 2) xs = true) : callN T gl W n f__law_pick [.ref 0, .ref 1, .ref (k + 2)] (base ns d rest) = .ok (xs.getD (drawF ns (d + 1) xs.length).toNat .none) (base ns (d + 1) rest) := by
  rw [call_eq P._law_pick (by omega)]
  have e1 := e_draw (W := W) P (n := n - 1) (by omega) ns hd rest (m := xs.length) (by omega)
  have e2 := l_ref (st := base ns d rest) (n := k + 2) (listAt_lst ((base_get ns d rest k).trans hk))
  have hb := draw_lt ns (d + 1) (m := xs.length) (by omega)
  have e3 := ix_lst (k := drawF ns (d + 1) xs.length) (listAt_lst ((base_get ns (d + 1) rest k).trans hk))
  generalize hj : drawF ns (d + 1) xs.length = j at *
  obtain ⟨i, rfl⟩ : ∃ i : Nat, j = i := ⟨j.toNat, by omega⟩
  have hi : i < xs.length := by omega
  rw [at_nat (v := xs.getD i .none) (by simp [hi])] at e3
  have z : gc (base ns d rest) (xs.getD i .none) (base ns (d + 1) rest) = _ := gc_base0 (lowL_all.mp hlow _ (by simp [hi]))
  simp at z e3
  simp [runBody, c__law_pick, e1, e2, e3, z]
/-- draws for each item -/
theorem comp_draw {ns : List Int} {f : Val → Store → Res (Option Val)} {ok : Store → Prop} {D : Nat} {rest : Store} {g : Nat → Val} (hD : D = rest.length + 2) (hok : ∀ d acc, ok (base ns d (rest ++ [.lst acc]))) (hf : ∀ x d acc, d ≤ 100000 → f x (base ns d (rest ++ [.lst acc])) = .ok (some (g d)) (base ns (d + 1) (rest ++ [.lst acc]))) :
    ∀ (xs : List Val) (d : Nat) (acc : List Val), d + xs.length ≤ 100000 → acc.length + xs.length ≤ 100000 → compLoop f ok D xs (base ns d (rest ++ [.lst acc])) = .ok (.ref D) (base ns (d + xs.length) (rest ++ [.lst (acc ++ (List.range' d xs.length).map g)]))
  | [], d, acc, _, _ => by
    rw [comp_nil]
    simp [hok]
  | x :: xs, d, acc, h1, h2 => by
    simp at h1 h2
    have hf1 := hf x d acc (by omega)
    have e : base ns d (rest ++ [.lst acc]) = base ns d rest ++ .lst acc :: [] := rfl
    have ok1 := hok d acc
    rw [e] at ok1 hf1 ⊢
    rw [comp_one (post := []) ok1 hD hf1 (by rw [hD, base_get]; simp) (by rw [sizeLine_eq]; omega)]
    have e2 : (base ns (d + 1) (rest ++ [.lst acc])).set D (.lst (acc ++ [g d])) = base ns (d + 1) (rest ++ [.lst (acc ++ [g d])]) := by
      rw [hD]; unfold base
      simp
    rw [e2, comp_draw hD hok hf xs (d + 1) (acc ++ [g d]) (by omega) (by simp; omega)]
    have : d + 1 + xs.length = d + (x :: xs).length := by simp; omega
    rw [this]
    simp [List.range'_succ]
end
/-! ### like things -/
theorem eq_same {st : Store} {a b : Val} {d : PyData} (h1 : toD st eqDeep a = some d) (h2 : toD st eqDeep b = some d) (hs : SeqAt.shaped d = true) (h3 : scalB a b = none) : eqM st a b = some true := by
  unfold eqM
  rw [h3, h1, h2]
  simp only
  rw [if_pos ⟨hs, hs⟩, SeqAt.eqv_refl d (by unfold SeqAt.shaped at hs; rw [Bool.and_eq_true] at hs; exact hs.1)]
theorem ne_same {st : Store} {a b : Val} {d : PyData} (h1 : toD st eqDeep a = some d) (h2 : toD st eqDeep b = some d) (hs : SeqAt.shaped d = true) (h3 : scalB a b = none) : cmpop .ne a b st = .ok (.bool false) st := by
  show optB (eqM st a b) true st = _
  rw [eq_same h1 h2 hs h3]; rfl
def dO : Option Int → PyData
  | none => .none
  | some k => .int k
theorem shaped_listO (xs : List (Option Int)) : SeqAt.shaped (.list (xs.map dO)) = true := by
  have h : PyData.canLayAll0 (xs.map dO) = true ∧ PyData.depthAll (xs.map dO) ≤ 0 := by
    induction xs with
    | nil => exact ⟨rfl, Nat.le_refl _⟩
    | cons x xs ih => cases x <;> simp [dO, PyData.canLayAll0, PyData.canLay0, PyData.depthAll, PyData.depth, ih.1] <;> omega
  unfold SeqAt.shaped
  simp [PyData.canLay0, PyData.depth, h.1]
  omega
theorem toD_listO {st : Store} {r : Nat} {xs : List (Option Int)} (h : listAt st r = some (xs.map encO)) : toD st eqDeep (.ref r) = some (.list (xs.map dO)) := by
  have e : ∀ xs : List (Option Int), (xs.map encO).mapM (toD st 23) = some (xs.map dO) := fun xs => by
    induction xs with
    | nil => simp
    | cons x xs ih =>
      have : toD st 23 (encO x) = some (dO x) := by cases x <;> rfl
      simp [ih, this]
  show (listAt st r).bind (fun xs => (xs.mapM (toD st 23)).map PyData.list) = _
  rw [h]
  show ((xs.map encO).mapM (toD st 23)).map PyData.list = _
  rw [e]; rfl
theorem ints_O (xs : List Int) : xs.map Val.int = (xs.map some).map encO := by simp [encO]

/-! ### more of the evaluator: bodies, blocks, draws -/
def turnOf (k : Int) : Turn := if k = 0 then .keep else if k = 1 then .each else if k = 2 then .twos else if k = 3 then .pairs else if k = 4 then .winner else .on
theorem body_ret {F : Fns} {d : Def} {args : List Val} {st s1 : Store} {v : Val} {env1 : Env} {r : Res Val} (hl : args.length = d.params) (hb : evalS F d.body (args.map some ++ List.replicate (d.names.length - args.length) none) st = .ok (.ret v, env1) s1) (hg : gc st v s1 = r) {b : Bool} : fin b (runBody F d args st) = r := by
  unfold runBody
  rw [if_pos hl, hb]
  show fin b (gc st v s1) = r
  rw [fin_gc]
  exact hg
theorem seq_next {F : Fns} {s r : CS} {env env1 : Env} {st st1 : Store} (h : evalS F s env st = .ok (.next, env1) st1) : evalS F (.seq s r) env st = evalS F r env1 st1 := by
  rw [es_seq, h, bindX_ok]
theorem lt_of_some {α : Type} {xs : List α} {k : Nat} {v : α} (h : xs[k]? = some v) : k < xs.length := (List.getElem?_eq_some_iff.mp h).1
theorem app_get {R g : Store} {a : Nat} {c : Cell} (h : R[a]? = some c) : (R ++ g)[a]? = some c := by
  rw [List.getElem?_append_left (lt_of_some h)]; exact h
theorem end_get {R : Store} {c : Cell} {a : Nat} (h : a = R.length) (g : Store) : (R ++ c :: g)[a]? = some c := by
  subst h; rw [List.getElem?_append_right (Nat.le_refl _)]; simp
theorem cut_take {α : Type} {xs : List α} {j : Nat} : cut xs none (some (j : Int)) = xs.take j := by
  unfold cut
  rw [HT.sIx_none, HT.sIx_nat, Nat.sub_zero, List.drop_zero]
  by_cases h : j ≤ xs.length
  · rw [Nat.min_eq_left h]
  · rw [Nat.min_eq_right (by omega), List.take_of_length_le (Nat.le_refl _), List.take_of_length_le (by omega)]
theorem mk_app {m : Mt} (hm : m ≠ .get) {s : Store} {k : Nat} {xs : List Val} (h : s[k]? = some (.lst xs)) : mtOk m (.ref k) s = true := mk_list (listAt_lst h) hm
def cnt (ws : List Int) (k : Int) : Int := (ws.count k : Nat)
theorem count_ints {s : Store} {k : Nat} {ws : List Int} (h : s[k]? = some (.lst (ws.map Val.int))) (x : Int) : metop .count (.ref k) [.int x] s = .ok (.int (cnt ws x)) s := by
  have := allInts_map (f := id) ws
  simp only [id, List.map_id'] at this
  have q := m_count (k := x) (listAt_lst h) this
  simp at q
  exact q
section
variable {T : Tab} {gl : Str → Option Val} {W : Nat}
theorem e_turn (P : Pg T gl) {n : Nat} (hn : 5 ≤ n) (ns : List Int) {d : Nat} (hd : d ≤ 100000) (rest : Store) : callN T gl W n f__law_turn [.ref 0, .ref 1] (base ns d rest) = .ok (.str (turnOf (drawF ns (d + 1) 6)).s) (base ns (d + 1) rest) := by
  rw [call_eq P._law_turn (by omega)]
  have e1 := e_pick (W := W) P (n := n - 1) (by omega) ns hd (rest ++ [.lst [.str s_keep, .str s_each, .str s_twos, .str s_pairs, .str s_winner, .str s_on]]) (k := rest.length) (xs := [.str s_keep, .str s_each, .str s_twos, .str s_pairs, .str s_winner, .str s_on]) (by simp) (by simp) rfl
  have hb := draw_lt ns (d + 1) (m := 6) (by decide)
  have e2 : [Val.str s_keep, .str s_each, .str s_twos, .str s_pairs, .str s_winner, .str s_on].getD (drawF ns (d + 1) 6).toNat .none = .str (turnOf (drawF ns (d + 1) 6)).s := by
    generalize drawF ns (d + 1) 6 = j at hb
    have : j = 0 ∨ j = 1 ∨ j = 2 ∨ j = 3 ∨ j = 4 ∨ j = 5 := by omega
    rcases this with rfl | rfl | rfl | rfl | rfl | rfl <;> rfl
  have e3 : (([Val.str s_keep, .str s_each, .str s_twos, .str s_pairs, .str s_winner, .str s_on].length : Nat) : Int) = 6 := rfl
  rw [e3, e2] at e1
  have z : gc (base ns d rest) (.str (turnOf (drawF ns (d + 1) 6)).s) (base ns (d + 1) (rest ++ [.lst [.str s_keep, .str s_each, .str s_twos, .str s_pairs, .str s_winner, .str s_on]])) = _ := gc_base rfl
  simp [runBody, c__law_turn, e1, z]
theorem e_comp_draw {n : Nat} (ns : List Int) {d d1 : Nat} {rest : Store} {env : Env} {src elt : CE} {i m : Nat} {g : Nat → Val} (h1 : evalE ⟨callN T gl W n, gl, W⟩ src env (base ns d rest) = .ok (.tup [.int (m : Int)]) (base ns d1 rest)) (hm : m ≤ 1000) (hd : d1 + m ≤ 100000)
    (he : ∀ x d acc, d ≤ 100000 → evalE ⟨callN T gl W n, gl, W⟩ elt (env.set i (some x)) (base ns d (rest ++ [.lst acc])) = .ok (g d) (base ns (d + 1) (rest ++ [.lst acc]))) :
    evalE ⟨callN T gl W n, gl, W⟩ (.comp .range i src .nil elt) env (base ns d rest) = .ok (.ref (rest.length + 2)) (base ns (d1 + m) (rest ++ [.lst ((List.range' d1 m).map g)])) := by
  rw [comp_of h1 (src_range (by omega))]
  have := comp_draw (ns := ns) (f := runC ⟨callN T gl W n, gl, W⟩ i .nil elt env) (ok := stays .range (.tup [.int (m : Int)]) ((List.range m).map fun (j : Nat) => Val.int (j : Int))) (D := rest.length + 2) (rest := rest) (g := g) rfl (fun _ _ => trivial) (fun x d acc hd => by
    simp only [runC, isNil, if_true]
    rw [he x d acc hd, bind_ok]) ((List.range m).map fun (j : Nat) => Val.int (j : Int)) d1 [] (by simp; omega) (by simp; omega)
  simp only [List.length_map, List.length_range, List.nil_append] at this
  exact this
/-- each item gives one, the store grows -/
theorem comp_grow {f : Val → Store → Res (Option Val)} {ok : Store → Prop} {D : Nat} {α : Type} {g : α → Val} {enc : α → Val} {pre : Store} (hD : D = pre.length) (hok : ∀ acc post, ok (pre ++ .lst acc :: post)) :
    ∀ (xs : List α) (acc : List Val) (post : Store), (∀ a ∈ xs, ∀ acc post, ∃ post', f (enc a) (pre ++ .lst acc :: post) = .ok (some (g a)) (pre ++ .lst acc :: post')) → acc.length + xs.length ≤ sizeLine → ∃ post', compLoop f ok D (xs.map enc) (pre ++ .lst acc :: post) = .ok (.ref D) (pre ++ .lst (acc ++ xs.map g) :: post')
  | [], acc, post, _, _ => by
    refine ⟨post, ?_⟩
    rw [List.map_nil, List.map_nil, List.append_nil, comp_nil]
    exact if_pos (hok _ _)
  | x :: xs, acc, post, hf, hl => by
    obtain ⟨post', hx⟩ := hf x List.mem_cons_self acc post
    have e : (pre ++ Cell.lst acc :: post')[D]? = some (.lst acc) := by rw [hD, List.getElem?_append_right (Nat.le_refl _)]; simp
    have e2 : (pre ++ Cell.lst acc :: post').set D (.lst (acc ++ [g x])) = pre ++ .lst (acc ++ [g x]) :: post' := by
      rw [hD, List.set_append_right _ _ (Nat.le_refl _)]; simp
    obtain ⟨post2, h2⟩ := comp_grow hD hok xs (acc ++ [g x]) post' (fun a ha => hf a (List.mem_cons_of_mem _ ha)) (by simp at hl ⊢; omega)
    refine ⟨post2, ?_⟩
    rw [List.map_cons, comp_one (hok _ _) hD hx e (by simp at hl; omega), e2, h2]
    simp
theorem range2 (d : Nat) (g : Nat → Val) : (List.range' d 2).map g = [g d, g (d + 1)] := rfl
end

/-! ### forms that a law draws -/
def formB : Nat → Nat
  | 0 => 1
  | L + 1 => 3 * formB L + 6
def formS : Nat → Nat
  | 0 => 1
  | L + 1 => 1 + 5 * formS L
theorem formS_pos : ∀ L, 1 ≤ formS L
  | 0 => by simp [formS]
  | L + 1 => by simp [formS]
theorem pick_int (xs : List Int) {j : Int} (h0 : 0 ≤ j) (h1 : j < xs.length) : (xs.map Val.int).getD j.toNat .none = .int (xs.getD j.toNat 0) := by
  have : j.toNat < xs.length := by omega
  simp [this]
theorem okL_all : ∀ {fs : List Form}, (∀ f ∈ fs, f.ok) → okL fs
  | [], _ => trivial
  | f :: fs, h => ⟨h f List.mem_cons_self, okL_all fun g hg => h g (List.mem_cons_of_mem _ hg)⟩
theorem deepL_le : ∀ {fs : List Form} {n : Nat}, (∀ f ∈ fs, f.deep ≤ n) → deepL fs ≤ n
  | [], n, _ => by simp [deepL]
  | f :: fs, n, h => by
    have h1 := h f List.mem_cons_self
    have h2 := deepL_le fun g hg => h g (List.mem_cons_of_mem f hg)
    simp [deepL]; omega
theorem sizeL_le : ∀ {fs : List Form} {n : Nat}, (∀ f ∈ fs, f.size ≤ n) → sizeL fs ≤ fs.length * n
  | [], n, _ => by simp [sizeL]
  | f :: fs, n, h => by
    have h1 := h f List.mem_cons_self
    have h2 := sizeL_le fun g hg => h g (List.mem_cons_of_mem f hg)
    simp [sizeL, Nat.add_mul]; omega
section
variable {T : Tab} {gl : Str → Option Val} {W : Nat}
/-- what a drawn form is -/
def Drawn (T : Tab) (gl : Str → Option Val) (W : Nat) (ns : List Int) (top : Int) (L : Nat) : Prop := ∀ (n d : Nat) (rest : Store), 6 + L ≤ n → d + formB L ≤ 90000 → ∃ (f : Form) (d' : Nat), callN T gl W n f__law_form [.ref 0, .ref 1, .int ((L : Int) + 1), .int top] (base ns d rest) = .ok f.enc (base ns d' rest) ∧ f.ok ∧ f.deep ≤ L + 1 ∧ f.size ≤ formS L ∧ d ≤ d' ∧ d' ≤ d + formB L
def frmB : CS := (.seq (.expr (.meth .append (.var 9) (.cons (.call f__law_form (.cons (.var 0) (.cons (.var 1) (.cons (.bin .sub (.var 2) (.int_ 1)) (.cons (.var 3) .nil))))) .nil))) .skip)
/-! the statements of the def -/
def lf1 : CS := (.set 4 (.call f__law_draw (.cons (.var 0) (.cons (.var 1) (.cons (.int_ 8) .nil)))))
def lf2 : CS := (.if_ (.or2 (.cmp .eq (.var 2) (.int_ 1)) (.or1 (.cmp .eq (.var 4) (.int_ 0)))) (.seq (.ret (.tup (.cons (.str_ s_point) .nil))) .skip) .skip)
def lf3 : CS := (.set 5 (.call f__law_turn (.cons (.var 0) (.cons (.var 1) .nil))))
def lf4 : CS := (.set 6 (.call f__law_form (.cons (.var 0) (.cons (.var 1) (.cons (.bin .sub (.var 2) (.int_ 1)) (.cons (.var 3) .nil))))))
def lf5 : CS := (.set 7 (.bin .add (.int_ 1) (.call f__law_draw (.cons (.var 0) (.cons (.var 1) (.cons (.var 3) .nil))))))
def lf6 : CS := (.set 8 (.call f__law_pick (.cons (.var 0) (.cons (.var 1) (.cons (.lst (.cons (.int_ 1) (.cons (.int_ 2) (.cons (.int_ 2) (.cons (.int_ 3) .nil))))) .nil)))))
def lf7 : CS := (.if_ (.cmp .lt (.var 4) (.int_ 4)) (.seq (.ret (.tup (.cons (.str_ s_race) (.cons (.var 6) (.cons (.var 7) (.cons (.var 8) (.cons (.var 5) .nil))))))) .skip) .skip)
def lf8 : CS := (.if_ (.cmp .lt (.var 4) (.int_ 6)) (.seq (.set 11 (.bin .add (.int_ 1) (.call f__law_draw (.cons (.var 0) (.cons (.var 1) (.cons (.var 3) .nil)))))) (.seq (.if_ (.and2 (.cmp .eq (.var 8) (.int_ 1)) (.and1 (.cmp .ge (.var 11) (.var 7)))) (.seq (.set 7 (.bin .add (.var 11) (.int_ 1))) .skip) .skip) (.seq (.ret (.tup (.cons (.str_ s_tied) (.cons (.var 6) (.cons (.var 7) (.cons (.var 8) (.cons (.var 11) (.cons (.call f__law_form (.cons (.var 0) (.cons (.var 1) (.cons (.bin .sub (.var 2) (.int_ 1)) (.cons (.var 3) .nil))))) (.cons (.var 5) .nil))))))))) .skip))) .skip)
def lf9 : CS := (.set 9 (.lst (.cons (.var 6) .nil)))
def lf10 : CS := (.for_ .range [10] (.cons (.int_ 2) .nil) (.seq (.expr (.meth .append (.var 9) (.cons (.call f__law_form (.cons (.var 0) (.cons (.var 1) (.cons (.bin .sub (.var 2) (.int_ 1)) (.cons (.var 3) .nil))))) .nil))) .skip))
def lf11 : CS := (.set 9 (.slice (.bin .mul (.var 9) (.int_ 3)) .nil (.call f__law_pick (.cons (.var 0) (.cons (.var 1) (.cons (.lst (.cons (.int_ 1) (.cons (.int_ 3) (.cons (.int_ 3) (.cons (.int_ 5) .nil))))) .nil))))))
def lf12 : CS := (.ret (.tup (.cons (.str_ s_series) (.cons (.bi .tuple (.cons (.var 9) .nil)) (.cons (.var 5) .nil)))))
theorem lf_body : c__law_form.body = .seq lf1 (.seq lf2 (.seq lf3 (.seq lf4 (.seq lf5 (.seq lf6 (.seq lf7 (.seq lf8 (.seq lf9 (.seq lf10 (.seq lf11 (.seq lf12 (.skip)))))))))))) := rfl
theorem e_lform (P : Pg T gl) (ns : List Int) {top : Int} (ht : 1 ≤ top) (ht2 : top ≤ 20) : ∀ L : Nat, L ≤ 6 → Drawn T gl W ns top L := by
  intro L
  induction L with
  | zero =>
    intro _ n d rest hn hd
    simp only [formB] at hd
    have e1 := e_draw (W := W) P (n := n - 1) (by omega) ns (d := d) (by omega) rest (m := 8) (by decide)
    refine ⟨.point, d + 1, ?_, trivial, by simp [Form.deep], by simp [Form.size, formS], by omega, by simp [formB]⟩
    rw [call_eq P._law_form (by omega)]
    have z : gc (base ns d rest) (.tup [.str s_point]) (base ns (d + 1) rest) = _ := gc_base0 (by simp)
    simp [runBody, c__law_form, e1, Form.enc, z]
  | succ L ih =>
    intro hL n d rest hn hd
    have ih := ih (by omega)
    simp only [formB] at hd
    rw [call_eq P._law_form (by omega)]
    have e1 := e_draw (W := W) P (n := n - 1) (by omega) ns (d := d) (by omega) rest (m := 8) (by decide)
    have b1 := draw_lt ns (d + 1) (m := 8) (by decide)
    generalize drawF ns (d + 1) 8 = kind at e1 b1
    have hl1 : (((L + 1 : Nat) : Int) + 1 = 1) = False := eq_false (by omega)
    have hl2 : ((L : Int) + 1 + 1 = 1) = False := eq_false (by omega)
    have hl3 : (L : Int) + 1 + 1 - 1 = (L : Int) + 1 := by omega
    by_cases c0 : kind = 0
    · refine ⟨.point, d + 1, ?_, trivial, by simp [Form.deep], by simp [Form.size, formS], by omega, by simp only [formB]; omega⟩
      have z : gc (base ns d rest) (.tup [.str s_point]) (base ns (d + 1) rest) = _ := gc_base0 (by simp)
      simp [runBody, c__law_form, e1, hl2, c0, Form.enc, z]
    · have e2 := e_turn (W := W) P (n := n - 1) (by omega) ns (d := d + 1) (by omega) rest
      generalize turnOf (drawF ns (d + 1 + 1) 6) = t at e2
      obtain ⟨f1, d1, e3, o1, dp1, sz1, m1, m2⟩ := ih (n - 1) (d + 1 + 1) rest (by omega) (by omega)
      have e4 := e_draw (W := W) P (n := n - 1) (by omega) ns (d := d1) (by omega) rest (m := top) (by omega)
      have b4 := draw_lt ns (d1 + 1) (m := top) (by omega)
      generalize drawF ns (d1 + 1) top = g at e4 b4
      have e5 := e_pick (W := W) P (n := n - 1) (by omega) ns (d := d1 + 1) (by omega) (rest ++ [.lst [.int 1, .int 2, .int 2, .int 3]]) (k := rest.length) (xs := [.int 1, .int 2, .int 2, .int 3]) (by simp) (by simp) rfl
      have b5 := draw_lt ns (d1 + 1 + 1) (m := 4) (by decide)
      have e6 : ∃ l : Int, (1 ≤ l ∧ l ≤ 3) ∧ [Val.int 1, .int 2, .int 2, .int 3].getD (drawF ns (d1 + 1 + 1) ([Val.int 1, .int 2, .int 2, .int 3].length : Nat)).toNat .none = .int l := by
        show ∃ l : Int, (1 ≤ l ∧ l ≤ 3) ∧ [Val.int 1, .int 2, .int 2, .int 3].getD (drawF ns (d1 + 1 + 1) 4).toNat .none = .int l
        generalize drawF ns (d1 + 1 + 1) 4 = j at b5
        have : j = 0 ∨ j = 1 ∨ j = 2 ∨ j = 3 := by omega
        rcases this with rfl | rfl | rfl | rfl
        · exact ⟨1, by decide, rfl⟩
        · exact ⟨2, by decide, rfl⟩
        · exact ⟨2, by decide, rfl⟩
        · exact ⟨3, by decide, rfl⟩
      obtain ⟨l, b6, e6⟩ := e6
      rw [e6] at e5
      by_cases c1 : kind < 4
      · refine ⟨.race f1 (1 + g) l t, d1 + 1 + 1, ?_, ⟨o1, by omega, b6⟩, by simp [Form.deep]; omega, by simp [Form.size, formS]; omega, by omega, by simp only [formB]; omega⟩
        have z : gc (base ns d rest) (.tup [.str s_race, f1.enc, .int (1 + g), .int l, .str t.s]) (base ns (d1 + 1 + 1) (rest ++ [.lst [.int 1, .int 2, .int 2, .int 3]])) = _ := gc_base (by simp [low_enc])
        simp [runBody, c__law_form, e1, hl2, hl3, c0, e2, e3, e4, e5, c1, Form.enc, z]
      · by_cases c2 : kind < 6
        · have e7 := e_draw (W := W) P (n := n - 1) (by omega) ns (d := d1 + 1 + 1) (by omega) (rest ++ [.lst [.int 1, .int 2, .int 2, .int 3]]) (m := top) (by omega)
          have b7 := draw_lt ns (d1 + 1 + 1 + 1) (m := top) (by omega)
          generalize drawF ns (d1 + 1 + 1 + 1) top = ev at e7 b7
          obtain ⟨f2, d2, e8, o2, dp2, sz2, m3, m4⟩ := ih (n - 1) (d1 + 1 + 1 + 1) (rest ++ [.lst [.int 1, .int 2, .int 2, .int 3]]) (by omega) (by omega)
          have z : ∀ goal : Int, gc (base ns d rest) (.tup [.str s_tied, f1.enc, .int goal, .int l, .int (1 + ev), f2.enc, .str t.s]) (base ns d2 (rest ++ [.lst [.int 1, .int 2, .int 2, .int 3]])) = _ := fun goal => gc_base (by simp [low_enc])
          by_cases c3 : l = 1
          · by_cases c4 : 1 + g ≤ 1 + ev
            · refine ⟨.tied f1 (1 + ev + 1) l (1 + ev) f2 t, d2, ?_, ⟨o1, by omega, b6, by omega, o2, by omega⟩, by simp [Form.deep]; omega, by simp [Form.size, formS]; omega, by omega, by simp only [formB]; omega⟩
              subst c3
              simp [runBody, c__law_form, e1, hl2, hl3, c0, e2, e3, e4, e5, c1, c2, e7, c4, e8, Form.enc, z]
            · refine ⟨.tied f1 (1 + g) l (1 + ev) f2 t, d2, ?_, ⟨o1, by omega, b6, by omega, o2, by omega⟩, by simp [Form.deep]; omega, by simp [Form.size, formS]; omega, by omega, by simp only [formB]; omega⟩
              subst c3
              simp [runBody, c__law_form, e1, hl2, hl3, c0, e2, e3, e4, e5, c1, c2, e7, c4, e8, Form.enc, z]
          · refine ⟨.tied f1 (1 + g) l (1 + ev) f2 t, d2, ?_, ⟨o1, by omega, b6, by omega, o2, by omega⟩, by simp [Form.deep]; omega, by simp [Form.size, formS]; omega, by omega, by simp only [formB]; omega⟩
            simp [runBody, c__law_form, e1, hl2, hl3, c0, e2, e3, e4, e5, c1, c2, e7, c3, e8, Form.enc, z]
        · -- a series
          generalize hR1 : rest ++ [Cell.lst [.int 1, .int 2, .int 2, .int 3]] = R1 at e5
          have nR : R1.length = rest.length + 1 := by rw [← hR1]; simp
          have step : ∀ (acc : List Val) (d : Nat) (x10 : Option Val), d + formB L ≤ 90000 → acc.length ≤ 10 → ∃ (f : Form) (d' : Nat), runS ⟨callN T gl W (n - 1), gl, W⟩ frmB [some (.ref 0), some (.ref 1), some (.int ((L : Int) + 1 + 1)), some (.int top), some (.int kind), some (.str t.s), some f1.enc, some (.int (1 + g)), some (.int l), some (.ref (R1.length + 2)), x10, none] (base ns d (R1 ++ [.lst acc])) = .ok (.next, [some (.ref 0), some (.ref 1), some (.int ((L : Int) + 1 + 1)), some (.int top), some (.int kind), some (.str t.s), some f1.enc, some (.int (1 + g)), some (.int l), some (.ref (R1.length + 2)), x10, none]) (base ns d' (R1 ++ [.lst (acc ++ [f.enc])])) ∧ f.ok ∧ f.deep ≤ L + 1 ∧ f.size ≤ formS L ∧ d ≤ d' ∧ d' ≤ d + formB L := by
            intro acc d x10 hd ha
            obtain ⟨f, d', q1, q2, q3, q4, q5, q6⟩ := ih (n - 1) d (R1 ++ [.lst acc]) (by omega) hd
            refine ⟨f, d', ?_, q2, q3, q4, q5, q6⟩
            have g1 : (base ns d (R1 ++ [.lst acc]))[R1.length + 2]? = some (.lst acc) := (base_get _ _ _ _).trans (end_get rfl [])
            have g2 : (base ns d' (R1 ++ [.lst acc]))[R1.length + 2]? = some (.lst acc) := (base_get _ _ _ _).trans (end_get rfl [])
            have k1 := mk_app (m := .append) (by decide) g1
            have k2 := m_append (y := f.enc) g2 (by rw [sizeLine_eq]; omega)
            have k3 : (base ns d' (R1 ++ [.lst acc])).set (R1.length + 2) (.lst (acc ++ [f.enc])) = base ns d' (R1 ++ [.lst (acc ++ [f.enc])]) := by
              unfold base; simp
            rw [k3] at k2
            simp [runS, frmB, k1, hl3, q1, k2]
          obtain ⟨f2, d2, q1, o2, dp2, sz2, m3, m4⟩ := step [f1.enc] (d1 + 1 + 1) (some (.int 0)) (by omega) (by simp)
          obtain ⟨f3, d3, q2, o3, dp3, sz3, m5, m6⟩ := step ([f1.enc] ++ [f2.enc]) d2 (some (.int 1)) (by omega) (by simp)
          have x3 := e_pick (W := W) P (n := n - 1) (by omega) ns (d := d3) (by omega) (R1 ++ [.lst ([f1.enc] ++ [f2.enc] ++ [f3.enc])] ++ [.lst (List.replicate 3 ([f1.enc] ++ [f2.enc] ++ [f3.enc])).flatten] ++ [.lst [.int 1, .int 3, .int 3, .int 5]]) (k := R1.length + 2) (xs := [.int 1, .int 3, .int 3, .int 5]) (by simp) (by simp) rfl
          have b8 := draw_lt ns (d3 + 1) (m := 4) (by decide)
          have e9 : ∃ j : Nat, (j = 1 ∨ j = 3 ∨ j = 5) ∧ [Val.int 1, .int 3, .int 3, .int 5].getD (drawF ns (d3 + 1) ([Val.int 1, .int 3, .int 3, .int 5].length : Nat)).toNat .none = .int (j : Int) := by
            show ∃ j : Nat, (j = 1 ∨ j = 3 ∨ j = 5) ∧ [Val.int 1, .int 3, .int 3, .int 5].getD (drawF ns (d3 + 1) 4).toNat .none = .int (j : Int)
            generalize drawF ns (d3 + 1) 4 = j at b8
            have : j = 0 ∨ j = 1 ∨ j = 2 ∨ j = 3 := by omega
            rcases this with rfl | rfl | rfl | rfl
            · exact ⟨1, by decide, rfl⟩
            · exact ⟨3, by decide, rfl⟩
            · exact ⟨3, by decide, rfl⟩
            · exact ⟨5, by decide, rfl⟩
          obtain ⟨j, hj, e9⟩ := e9
          rw [e9] at x3
          have fl : (List.replicate 3 ([f1.enc] ++ [f2.enc] ++ [f3.enc])).flatten = [f1, f2, f3, f1, f2, f3, f1, f2, f3].map Form.enc := rfl
          rw [fl] at x3
          have hin : ∀ f ∈ ([f1, f2, f3, f1, f2, f3, f1, f2, f3] : List Form).take j, f.ok ∧ f.deep ≤ L + 1 ∧ f.size ≤ formS L := fun f hf => by
            have := List.mem_of_mem_take hf
            simp at this
            rcases this with rfl | rfl | rfl | rfl | rfl | rfl | rfl | rfl | rfl <;> exact ⟨by assumption, by assumption, by assumption⟩
          have hlen : (([f1, f2, f3, f1, f2, f3, f1, f2, f3] : List Form).take j).length = j := by
            rw [List.length_take]
            rcases hj with rfl | rfl | rfl <;> rfl
          have hsz := sizeL_le fun f hf => (hin f hf).2.2
          have hdp := deepL_le fun f hf => (hin f hf).2.1
          rw [hlen] at hsz
          have hsz2 : j * formS L ≤ 5 * formS L := Nat.mul_le_mul_right _ (by omega)
          refine ⟨.series (([f1, f2, f3, f1, f2, f3, f1, f2, f3] : List Form).take j) t, d3 + 1, ?_, ⟨okL_all fun f hf => (hin f hf).1, by rw [hlen]; omega⟩, by simp only [Form.deep]; omega, by simp only [Form.size, formS]; omega, by omega, by simp only [formB]; omega⟩
          have hc : (((L + 1 : Nat) : Int) + 1) = (L : Int) + 1 + 1 := by omega
          rw [hc]
          have a1 : evalS ⟨callN T gl W (n - 1), gl, W⟩ lf1 [some (.ref 0), some (.ref 1), some (.int ((L : Int) + 1 + 1)), some (.int top), none, none, none, none, none, none, none, none] (base ns d rest) = .ok (.next, [some (.ref 0), some (.ref 1), some (.int ((L : Int) + 1 + 1)), some (.int top), some (.int kind), none, none, none, none, none, none, none]) (base ns (d + 1) rest) := by
            simp [lf1, e1]
          have a2 : evalS ⟨callN T gl W (n - 1), gl, W⟩ lf2 [some (.ref 0), some (.ref 1), some (.int ((L : Int) + 1 + 1)), some (.int top), some (.int kind), none, none, none, none, none, none, none] (base ns (d + 1) rest) = .ok (.next, [some (.ref 0), some (.ref 1), some (.int ((L : Int) + 1 + 1)), some (.int top), some (.int kind), none, none, none, none, none, none, none]) (base ns (d + 1) rest) := by
            simp [lf2, hl2, c0]
          have a3 : evalS ⟨callN T gl W (n - 1), gl, W⟩ lf3 [some (.ref 0), some (.ref 1), some (.int ((L : Int) + 1 + 1)), some (.int top), some (.int kind), none, none, none, none, none, none, none] (base ns (d + 1) rest) = .ok (.next, [some (.ref 0), some (.ref 1), some (.int ((L : Int) + 1 + 1)), some (.int top), some (.int kind), some (.str t.s), none, none, none, none, none, none]) (base ns (d + 1 + 1) rest) := by
            simp [lf3, e2]
          have a4 : evalS ⟨callN T gl W (n - 1), gl, W⟩ lf4 [some (.ref 0), some (.ref 1), some (.int ((L : Int) + 1 + 1)), some (.int top), some (.int kind), some (.str t.s), none, none, none, none, none, none] (base ns (d + 1 + 1) rest) = .ok (.next, [some (.ref 0), some (.ref 1), some (.int ((L : Int) + 1 + 1)), some (.int top), some (.int kind), some (.str t.s), some f1.enc, none, none, none, none, none]) (base ns d1 rest) := by
            simp [lf4, hl3, e3]
          have a5 : evalS ⟨callN T gl W (n - 1), gl, W⟩ lf5 [some (.ref 0), some (.ref 1), some (.int ((L : Int) + 1 + 1)), some (.int top), some (.int kind), some (.str t.s), some f1.enc, none, none, none, none, none] (base ns d1 rest) = .ok (.next, [some (.ref 0), some (.ref 1), some (.int ((L : Int) + 1 + 1)), some (.int top), some (.int kind), some (.str t.s), some f1.enc, some (.int (1 + g)), none, none, none, none]) (base ns (d1 + 1) rest) := by
            simp [lf5, e4]
          have a6 : evalS ⟨callN T gl W (n - 1), gl, W⟩ lf6 [some (.ref 0), some (.ref 1), some (.int ((L : Int) + 1 + 1)), some (.int top), some (.int kind), some (.str t.s), some f1.enc, some (.int (1 + g)), none, none, none, none] (base ns (d1 + 1) rest) = .ok (.next, [some (.ref 0), some (.ref 1), some (.int ((L : Int) + 1 + 1)), some (.int top), some (.int kind), some (.str t.s), some f1.enc, some (.int (1 + g)), some (.int l), none, none, none]) (base ns (d1 + 1 + 1) R1) := by
            simp [lf6, hR1, e5]
          have a7 : evalS ⟨callN T gl W (n - 1), gl, W⟩ lf7 [some (.ref 0), some (.ref 1), some (.int ((L : Int) + 1 + 1)), some (.int top), some (.int kind), some (.str t.s), some f1.enc, some (.int (1 + g)), some (.int l), none, none, none] (base ns (d1 + 1 + 1) R1) = .ok (.next, [some (.ref 0), some (.ref 1), some (.int ((L : Int) + 1 + 1)), some (.int top), some (.int kind), some (.str t.s), some f1.enc, some (.int (1 + g)), some (.int l), none, none, none]) (base ns (d1 + 1 + 1) R1) := by
            simp [lf7, c1]
          have a8 : evalS ⟨callN T gl W (n - 1), gl, W⟩ lf8 [some (.ref 0), some (.ref 1), some (.int ((L : Int) + 1 + 1)), some (.int top), some (.int kind), some (.str t.s), some f1.enc, some (.int (1 + g)), some (.int l), none, none, none] (base ns (d1 + 1 + 1) R1) = .ok (.next, [some (.ref 0), some (.ref 1), some (.int ((L : Int) + 1 + 1)), some (.int top), some (.int kind), some (.str t.s), some f1.enc, some (.int (1 + g)), some (.int l), none, none, none]) (base ns (d1 + 1 + 1) R1) := by
            simp [lf8, c2]
          have a9 : evalS ⟨callN T gl W (n - 1), gl, W⟩ lf9 [some (.ref 0), some (.ref 1), some (.int ((L : Int) + 1 + 1)), some (.int top), some (.int kind), some (.str t.s), some f1.enc, some (.int (1 + g)), some (.int l), none, none, none] (base ns (d1 + 1 + 1) R1) = .ok (.next, [some (.ref 0), some (.ref 1), some (.int ((L : Int) + 1 + 1)), some (.int top), some (.int kind), some (.str t.s), some f1.enc, some (.int (1 + g)), some (.int l), some (.ref (R1.length + 2)), none, none]) (base ns (d1 + 1 + 1) (R1 ++ [.lst [f1.enc]])) := by
            simp [lf9]
          have h1 : evalE ⟨callN T gl W (n - 1), gl, W⟩ (.cons (.int_ 2) .nil) [some (.ref 0), some (.ref 1), some (.int ((L : Int) + 1 + 1)), some (.int top), some (.int kind), some (.str t.s), some f1.enc, some (.int (1 + g)), some (.int l), some (.ref (R1.length + 2)), none, none] (base ns (d1 + 1 + 1) (R1 ++ [.lst [f1.enc]])) = .ok (.tup [.int ((2 : Nat) : Int)]) (base ns (d1 + 1 + 1) (R1 ++ [.lst [f1.enc]])) := rfl
          have a10 := for_of (is := [10]) (a := frmB) h1 (src_range (m := 2) (by decide))
          have lp : forLoop [10] (stays .range (.tup [.int ((2 : Nat) : Int)]) ((List.range 2).map fun (j : Nat) => Val.int (j : Int))) (runS ⟨callN T gl W (n - 1), gl, W⟩ frmB) ((List.range 2).map fun (j : Nat) => Val.int (j : Int)) [some (.ref 0), some (.ref 1), some (.int ((L : Int) + 1 + 1)), some (.int top), some (.int kind), some (.str t.s), some f1.enc, some (.int (1 + g)), some (.int l), some (.ref (R1.length + 2)), none, none] (base ns (d1 + 1 + 1) (R1 ++ [.lst [f1.enc]])) = .ok (.next, [some (.ref 0), some (.ref 1), some (.int ((L : Int) + 1 + 1)), some (.int top), some (.int kind), some (.str t.s), some f1.enc, some (.int (1 + g)), some (.int l), some (.ref (R1.length + 2)), some (.int 1), none]) (base ns d3 (R1 ++ [.lst ([f1.enc] ++ [f2.enc] ++ [f3.enc])])) := by
            have : ((List.range 2).map fun (j : Nat) => Val.int (j : Int)) = [.int 0, .int 1] := rfl
            rw [this, for_next trivial rfl q1, for_next trivial rfl q2]
            exact for_end trivial
          rw [lp] at a10
          have a10' : evalS ⟨callN T gl W (n - 1), gl, W⟩ lf10 [some (.ref 0), some (.ref 1), some (.int ((L : Int) + 1 + 1)), some (.int top), some (.int kind), some (.str t.s), some f1.enc, some (.int (1 + g)), some (.int l), some (.ref (R1.length + 2)), none, none] (base ns (d1 + 1 + 1) (R1 ++ [.lst [f1.enc]])) = _ := a10
          generalize hR2 : R1 ++ [Cell.lst ([f1.enc] ++ [f2.enc] ++ [f3.enc])] = R2 at a10' x3
          have nR2 : R2.length = R1.length + 1 := by rw [← hR2]; simp
          have g9 : ∀ d g, (base ns d (R2 ++ g))[R1.length + 2]? = some (.lst ([f1.enc] ++ [f2.enc] ++ [f3.enc])) := fun d g => (base_get _ _ _ _).trans (app_get (by rw [← hR2]; exact end_get rfl []))
          have mu : binop .mul (.ref (R1.length + 2)) (.int 3) (base ns d3 R2) = .ok (.ref (R2.length + 2)) (base ns d3 (R2 ++ [.lst ([f1, f2, f3, f1, f2, f3, f1, f2, f3].map Form.enc)])) := by
            have g0 := g9 d3 []
            rw [List.append_nil] at g0
            simp only [binop]
            rw [g0]
            exact need_pos ⟨by decide, by decide, small_line (by simp)⟩
          generalize hR3 : R2 ++ [Cell.lst ([f1, f2, f3, f1, f2, f3, f1, f2, f3].map Form.enc)] = R3 at mu x3
          have nR3 : R3.length = R1.length + 2 := by rw [← hR3]; simp; omega
          have sl := sl_list (st := base ns (d3 + 1) (R3 ++ [.lst [.int 1, .int 3, .int 3, .int 5]])) (n := R2.length + 2) (xs := [f1, f2, f3, f1, f2, f3, f1, f2, f3].map Form.enc) (l := none) (h := some (j : Int)) (listAt_lst ((base_get _ _ _ _).trans (app_get (by rw [← hR3]; exact end_get rfl []))))
          rw [cut_take, ← List.map_take] at sl
          generalize hfs : ([f1, f2, f3, f1, f2, f3, f1, f2, f3] : List Form).take j = fs at *
          rw [base_app, base_length] at sl
          rw [← nR3] at x3
          have pk : evalE ⟨callN T gl W (n - 1), gl, W⟩ (.call f__law_pick (.cons (.var 0) (.cons (.var 1) (.cons (.lst (.cons (.int_ 1) (.cons (.int_ 3) (.cons (.int_ 3) (.cons (.int_ 5) .nil))))) .nil)))) [some (.ref 0), some (.ref 1), some (.int ((L : Int) + 1 + 1)), some (.int top), some (.int kind), some (.str t.s), some f1.enc, some (.int (1 + g)), some (.int l), some (.ref (R1.length + 2)), some (.int 1), none] (base ns d3 R3) = .ok (.int (j : Int)) (base ns (d3 + 1) (R3 ++ [.lst [.int 1, .int 3, .int 3, .int 5]])) := by
            simp [x3]
          generalize hR4 : R3 ++ [Cell.lst [.int 1, .int 3, .int 3, .int 5]] = R4 at sl pk
          have a11 : evalS ⟨callN T gl W (n - 1), gl, W⟩ lf11 [some (.ref 0), some (.ref 1), some (.int ((L : Int) + 1 + 1)), some (.int top), some (.int kind), some (.str t.s), some f1.enc, some (.int (1 + g)), some (.int l), some (.ref (R1.length + 2)), some (.int 1), none] (base ns d3 R2) = .ok (.next, [some (.ref 0), some (.ref 1), some (.int ((L : Int) + 1 + 1)), some (.int top), some (.int kind), some (.str t.s), some f1.enc, some (.int (1 + g)), some (.int l), some (.ref (R4.length + 2)), some (.int 1), none]) (base ns (d3 + 1) (R4 ++ [.lst (fs.map Form.enc)])) := by
            unfold lf11
            rw [es_set, ev_slice, ev_bin]
            simp only [ev_var, ev_int, bind_ok, isNil, if_true, Bool.false_eq_true, if_false]
            show ((binop .mul (.ref (R1.length + 2)) (.int 3) (base ns d3 R2)).bind _).bindX _ = _
            rw [mu]
            simp only [bind_ok]
            rw [pk]
            simp only [bind_ok, part_int]
            rw [sl]
            rfl
          have a12 : evalS ⟨callN T gl W (n - 1), gl, W⟩ lf12 [some (.ref 0), some (.ref 1), some (.int ((L : Int) + 1 + 1)), some (.int top), some (.int kind), some (.str t.s), some f1.enc, some (.int (1 + g)), some (.int l), some (.ref (R4.length + 2)), some (.int 1), none] (base ns (d3 + 1) (R4 ++ [.lst (fs.map Form.enc)])) = .ok (.ret (Form.series fs t).enc, [some (.ref 0), some (.ref 1), some (.int ((L : Int) + 1 + 1)), some (.int top), some (.int kind), some (.str t.s), some f1.enc, some (.int (1 + g)), some (.int l), some (.ref (R4.length + 2)), some (.int 1), none]) (base ns (d3 + 1) (R4 ++ [.lst (fs.map Form.enc)])) := by
            have lt := bi_tupL (st := base ns (d3 + 1) (R4 ++ [.lst (fs.map Form.enc)])) (n := R4.length + 2) (xs := fs.map Form.enc) (listAt_lst ((base_get _ _ _ _).trans (end_get rfl [])))
            simp [lf12, lt, Form.enc, encL_map]
          have hst : R4 ++ [Cell.lst (fs.map Form.enc)] = rest ++ ([.lst [.int 1, .int 2, .int 2, .int 3]] ++ [.lst ([f1.enc] ++ [f2.enc] ++ [f3.enc])] ++ [.lst ([f1, f2, f3, f1, f2, f3, f1, f2, f3].map Form.enc)] ++ [.lst [.int 1, .int 3, .int 3, .int 5]] ++ [.lst (fs.map Form.enc)]) := by
            rw [← hR4, ← hR3, ← hR2, ← hR1]; simp only [List.append_assoc]
          refine body_ret (v := (Form.series fs t).enc) (s1 := base ns (d3 + 1) (R4 ++ [.lst (fs.map Form.enc)])) (env1 := [some (.ref 0), some (.ref 1), some (.int ((L : Int) + 1 + 1)), some (.int top), some (.int kind), some (.str t.s), some f1.enc, some (.int (1 + g)), some (.int l), some (.ref (R4.length + 2)), some (.int 1), none]) rfl ?_ (by rw [hst]; exact gc_base (low_enc _ _))
          show evalS ⟨callN T gl W (n - 1), gl, W⟩ c__law_form.body [some (.ref 0), some (.ref 1), some (.int ((L : Int) + 1 + 1)), some (.int top), none, none, none, none, none, none, none, none] (base ns d rest) = _
          rw [lf_body, seq_next a1, seq_next a2, seq_next a3, seq_next a4, seq_next a5, seq_next a6, seq_next a7, seq_next a8, seq_next a9, seq_next a10', seq_next a11, es_seq, a12, bindX_ok]
end
/-! ### sizes -/
def Form.laid (f : Form) : List Form := f.parts
theorem size_fs : ∀ fs : List Form, fs.length ≤ sizeL fs
  | [] => by simp
  | g :: gs => by have := size_fs gs; cases g <;> simp [sizeL, Form.size] <;> omega
theorem size_mem : ∀ {fs : List Form} {g : Form}, g ∈ fs → g.size ≤ sizeL fs
  | f :: fs, g, h => by
    rcases List.mem_cons.mp h with e | h
    · subst e; simp [sizeL]
    · have := size_mem h; simp [sizeL]; omega
theorem sum_sizes (gs : List Form) : ((gs.map fun g => (g.size : Int)).sum) = (sizeL gs : Int) := by
  rw [sizeL_sum]
  induction gs with
  | nil => rfl
  | cons g gs ih => simp [ih]
section
variable {T : Tab} {gl : Str → Option Val} {W : Nat}
theorem e_lsize (P : Pg T gl) : ∀ (r : Nat) (f : Form) (n : Nat) (st : Store), f.deep ≤ r → f.size ≤ 1000 → r ≤ n → callN T gl W n f__law_size [f.enc] st = .ok (.int f.size) st := by
  intro r
  induction r with
  | zero =>
    intro f n st hd _ _
    have := deep_pos f
    omega
  | succ r ih =>
    intro f n st hd hsz hn
    rw [call_eq P._law_size (by omega)]
    have hsp := size_parts f
    have hlen := size_fs f.parts
    have k1 := comp_map (f := runC ⟨callN T gl W (n - 1), gl, W⟩ 2 .nil (.call f__law_size (.cons (.var 2) .nil)) [some f.enc, some (.ref st.length), none]) (ok := stays .seq (.ref st.length) (f.parts.map Form.enc)) (D := st.length + 1) (pre := st ++ [.lst (f.parts.map Form.enc)]) (enc := Form.enc) (g := fun g => Val.int g.size) (by simp) (fun acc => listAt_lst (by simp)) f.parts []
      (fun g hg acc => by
        have hd2 := deep_parts hg
        have hs2 := size_mem hg
        have e1 := ih g (n - 1) (st ++ [.lst (f.parts.map Form.enc)] ++ [.lst acc]) (by omega) (by omega) (by omega)
        simp at e1
        simp [runC, isNil, e1]) (small_line (by simp; omega))
    rw [List.nil_append] at k1
    have h4 : listAt (st ++ [Cell.lst (f.parts.map Form.enc)] ++ [Cell.lst (f.parts.map fun g => Val.int g.size)]) (st.length + 1) = some (f.parts.map fun g => Val.int g.size) := listAt_lst (by simp)
    have h5 : allInts (f.parts.map fun g => Val.int (g.size : Int)) = some (f.parts.map fun g => (g.size : Int)) := allInts_map (f := fun g : Form => (g.size : Int)) f.parts
    have h7 := bi_sum h4 h5
    rw [sum_sizes] at h7
    have e2 : listAt (st ++ [Cell.lst (f.parts.map Form.enc)]) st.length = some (f.parts.map Form.enc) := listAt_lst (by simp)
    have hs : (f.size : Int) = 1 + (sizeL f.parts : Int) := by omega
    simp only [List.append_assoc, List.singleton_append] at k1 h7
    rw [hs]
    cases f with
    | point => simp [runBody, c__law_size, Form.enc, Form.parts, sizeL]
    | race a g l t =>
      simp only [Form.enc, Form.parts, List.map_cons, List.map_nil] at k1 h7 e2 ⊢
      simp [runBody, c__law_size, srcItems, e2, k1, h7]
    | tied a g l e b t =>
      simp only [Form.enc, Form.parts, List.map_cons, List.map_nil] at k1 h7 e2 ⊢
      have k0 : mtOk .append (.ref st.length) (st ++ [.lst [a.enc]]) = true := mk_app (by decide) (xs := [a.enc]) (by simp)
      have ka := m_append (st := st ++ [.lst [a.enc]]) (n := st.length) (xs := [a.enc]) (y := b.enc) (by simp) (by rw [sizeLine_eq]; simp)
      have kb : (st ++ [Cell.lst [a.enc]]).set st.length (.lst ([a.enc] ++ [b.enc])) = st ++ [.lst [a.enc, b.enc]] := by simp
      rw [kb] at ka
      simp [runBody, c__law_size, k0, ka, srcItems, e2, k1, h7]
    | series fs t =>
      simp only [Form.enc, Form.parts, encL_map] at k1 h7 e2 ⊢
      simp [runBody, c__law_size, srcItems, e2, k1, h7]
theorem e_sized (P : Pg T gl) (ns : List Int) {top : Int} (ht : 1 ≤ top) (ht2 : top ≤ 20) {n d L : Nat} (hL : L ≤ 3) (hn : 12 ≤ n) (hd : d ≤ 50000) (rest : Store) : ∃ (f : Form) (d' : Nat), callN T gl W n f__law_sized [.ref 0, .ref 1, .int ((L : Int) + 1), .int top] (base ns d rest) = .ok f.enc (base ns d' rest) ∧ FormOk f ∧ f.deep ≤ max 2 (L + 1) ∧ d' ≤ d + formB L := by
  have hB : formB L ≤ 1000 := by
    have : L = 0 ∨ L = 1 ∨ L = 2 ∨ L = 3 := by omega
    rcases this with rfl | rfl | rfl | rfl <;> decide
  have hS : formS L ≤ 1000 := by
    have : L = 0 ∨ L = 1 ∨ L = 2 ∨ L = 3 := by omega
    rcases this with rfl | rfl | rfl | rfl <;> decide
  obtain ⟨f, d', e1, o, dp, sz, _, m⟩ := e_lform (W := W) P ns ht ht2 L (by omega) (n - 1) d rest (by omega) (by omega)
  have e2 := e_lsize (W := W) P (L + 1) f (n - 1) (base ns d' rest) dp (by omega) (by omega)
  by_cases c : f.size ≤ 20
  · have c' : (f.size : Int) ≤ 20 := by omega
    refine ⟨f, d', ?_, ⟨o, by omega, c⟩, by omega, m⟩
    rw [call_eq P._law_sized (by omega)]
    have z : gc (base ns d rest) f.enc (base ns d' rest) = _ := gc_base0 (low_enc _ _)
    simp [runBody, c__law_sized, e1, e2, c', z]
  · have c' : ¬ (f.size : Int) ≤ 20 := by omega
    refine ⟨.race .point top 2 .pairs, d', ?_, ⟨⟨trivial, by omega, by decide⟩, by simp [Form.deep], by simp [Form.size]⟩, by simp [Form.deep]; omega, m⟩
    rw [call_eq P._law_sized (by omega)]
    have z : gc (base ns d rest) (Form.race .point top 2 .pairs).enc (base ns d' rest) = _ := gc_base0 (low_enc _ _)
    simp only [Form.enc, Turn.s] at z
    simp [runBody, c__law_sized, e1, e2, c', Form.enc, Turn.s, z]
end

/-! ### a row played till it is over -/
def runTo : State → List Int → State × List Int
  | S, [] => (S, [])
  | S, w :: r => if S.isOver = true then (S, w :: r) else runTo (pushed S w).1 r
theorem run_over {S : State} (h : S.isOver = true) : ∀ r, runTo S r = (S, r)
  | [] => rfl
  | w :: r => by simp [runTo, h]
theorem first_push {I : State} {w : Int} (h : (pushed I w).1.isOver = false) : (pushed I w).1.first = I.first := by
  cases I with
  | pt s => cases h
  | over _ _ _ => cases h
  | co f s m i J =>
    show (liftedS f s m i J (pushed J w)).1.first = s
    have h : (liftedS f s m i J (pushed J w)).1.isOver = false := h
    unfold liftedS at h ⊢
    split
    · rename_i w' t' l' e
      rw [e] at h
      simp only at h ⊢
      unfold behindS at h ⊢
      cases hd : f.decided m i w' with
      | some k => rw [hd] at h; cases h
      | none => rfl
    · rfl
theorem behind_first {f : Form} {s m i w t : Int} {I J : State} (h : I.first = J.first) : behindS f s m i I w t = behindS f s m i J w t := by
  unfold behindS; rw [h]
theorem run_co {f : Form} {s m i : Int} : ∀ (r : List Int) (I : State), I.isOver = false →
    ((runTo I r).1.isOver = false → runTo (.co f s m i I) r = (.co f s m i (runTo I r).1, []) ∧ (runTo I r).2 = []) ∧
    (∀ w t l, (runTo I r).1 = .over w t l → runTo (.co f s m i I) r = runTo (behindS f s m i I w t) (runTo I r).2 ∧ (runTo I r).2.length < r.length)
  | [], I, hI => ⟨fun _ => ⟨rfl, rfl⟩, fun w t l e => by have e : I = .over w t l := e; rw [e] at hI; cases hI⟩
  | x :: r, I, hI => by
    have e0 : runTo I (x :: r) = runTo (pushed I x).1 r := by simp [runTo, hI]
    have e1 : runTo (.co f s m i I) (x :: r) = runTo (liftedS f s m i I (pushed I x)).1 r := by
      simp [runTo, State.isOver, pushed]
    rw [e0, e1]
    cases ho : (pushed I x).1.isOver with
    | false =>
      have e2 : (liftedS f s m i I (pushed I x)).1 = .co f s m i (pushed I x).1 := by
        unfold liftedS
        cases e : (pushed I x).1 with
        | over _ _ _ => rw [e] at ho; cases ho
        | _ => rfl
      rw [e2]
      obtain ⟨a, b⟩ := run_co (f := f) (s := s) (m := m) (i := i) r (pushed I x).1 ho
      refine ⟨a, fun w t l e => ?_⟩
      obtain ⟨b1, b2⟩ := b w t l e
      rw [b1, behind_first (first_push ho)]
      exact ⟨rfl, by simp; omega⟩
    | true =>
      rw [run_over ho]
      refine ⟨fun z => absurd (ho.symm.trans z) (by decide), fun w t l e => ?_⟩
      have e : (pushed I x).1 = .over w t l := e
      have e2 : (liftedS f s m i I (pushed I x)).1 = behindS f s m i I w t := by
        unfold liftedS; rw [e]
      rw [e2]
      exact ⟨rfl, by simp⟩
theorem eq_ints {st : Store} {a b : Nat} {xs ys : List Int} (h1 : listAt st a = some (xs.map Val.int)) (h2 : listAt st b = some (ys.map Val.int)) : cmpop .eq (.ref a) (.ref b) st = .ok (.bool (decide (xs = ys))) st := by
  have k1 : listAt st a = some ((xs.map some).map encO) := by rw [h1, ints_O]
  have k2 : listAt st b = some ((ys.map some).map encO) := by rw [h2, ints_O]
  have e : eqM st (.ref a) (.ref b) = some (decide (xs = ys)) := by
    unfold eqM
    rw [toD_listO k1, toD_listO k2]
    show (if SeqAt.shaped (.list ((xs.map some).map dO)) = true ∧ SeqAt.shaped (.list ((ys.map some).map dO)) = true then some (PyData.eqv (.list ((xs.map some).map dO)) (.list ((ys.map some).map dO))) else none) = _
    rw [if_pos ⟨shaped_listO _, shaped_listO _⟩]
    have q : ∀ xs ys : List Int, PyData.eqvAll ((xs.map some).map dO) ((ys.map some).map dO) = decide (xs = ys) := by
      intro xs
      induction xs with
      | nil => intro ys; cases ys <;> simp [PyData.eqvAll]
      | cons x xs ih =>
        intro ys
        cases ys with
        | nil => simp [PyData.eqvAll]
        | cons y ys =>
          rw [List.map_cons, List.map_cons, List.map_cons, List.map_cons, PyData.eqvAll, ih ys]
          by_cases c : x = y <;> simp [dO, PyData.eqv, c]
    unfold PyData.eqv
    rw [q]
  show optB (eqM st (.ref a) (.ref b)) false st = _
  rw [e]; rfl

section
variable {T : Tab} {gl : Str → Option Val} {W : Nat}
theorem e_linner (P : Pg T gl) {n : Nat} (hn : 1 ≤ n) {f : Form} (hf : f ≠ .point) (m i : Int) (h0 : 0 ≤ m) (h1 : 0 ≤ i) (hs : ∀ fs t, f = .series fs t → (m + i).toNat < fs.length) {k : Nat} {st : Store} (hk : st[k]? = some (.lst [.int m, .int i])) :
    callN T gl W n f__law_inner [f.enc, .ref k] st = .ok (f.innerAt m i).enc st := by
  rw [call_eq P._law_inner hn]
  have x0 := ix_lst (k := 0) (listAt_lst hk)
  have x1 := ix_lst (k := 1) (listAt_lst hk)
  rw [at_0] at x0
  rw [at_1] at x1
  simp only at x0 x1
  cases f with
  | point => exact absurd rfl hf
  | race a g l t =>
    have z : gc st a.enc st = _ := gc_self (low_enc _ _)
    simp [runBody, c__law_inner, Form.enc, Form.innerAt, z]
  | tied a g l e b t =>
    have hk2 : listAt (st ++ [.lst [.int e, .int e]]) k = some ([m, i].map Val.int) := listAt_lst (app_get hk)
    have he : listAt (st ++ [.lst [.int e, .int e]]) st.length = some ([e, e].map Val.int) := listAt_lst (end_get rfl [])
    have q := eq_ints hk2 he
    have z1 : gc st a.enc (st ++ [.lst [.int e, .int e]]) = _ := gc_app (low_enc _ _)
    have z2 : gc st b.enc (st ++ [.lst [.int e, .int e]]) = _ := gc_app (low_enc _ _)
    by_cases c : m = i ∧ i = e
    · obtain ⟨rfl, rfl⟩ := c
      simp at q
      simp [runBody, c__law_inner, Form.enc, Form.innerAt, q, z2]
    · have c' : ¬ (m = e ∧ i = e) := by omega
      simp [c'] at q
      simp [runBody, c__law_inner, Form.enc, Form.innerAt, q, c, z1]
  | series fs t =>
    have hlt := hs fs t rfl
    have e : L2.atI (encL fs) (m + i) = some ((fs.getD (m + i).toNat .point).enc) := by
      obtain ⟨j, hj⟩ : ∃ j : Nat, m + i = j := ⟨(m + i).toNat, by omega⟩
      rw [hj] at hlt ⊢
      rw [Int.toNat_natCast] at hlt ⊢
      exact at_nat (by rw [encL_map]; simp [hlt])
    have z : gc st (fs.getD (m + i).toNat .point).enc st = _ := gc_self (low_enc _ _)
    simp only [Form.enc, Form.innerAt]
    simp at e z
    simp [runBody, c__law_inner, x0, x1, e, z]
/-- who serves, by the ones over -/
def servesF (t : Turn) (first : Int) (ones : List (Int × Int)) : Int := match ones.getLast? with
  | none => first
  | some p => servedBy t first ones.length p.1 p.2
theorem e_serves (P : Pg T gl) {n : Nat} (hn : 1 ≤ n) (t : Turn) (first : Int) (ones : List (Int × Int)) {k : Nat} {st : Store} (hk : st[k]? = some (.lst (ones.map fun p => .tup [.int p.1, .int p.2]))) :
    callN T gl W n f__law_serves [.str t.s, .int first, .ref k] st = .ok (.int (servesF t first ones)) st := by
  rw [call_eq P._law_serves hn]
  have hl := l_ref (listAt_lst hk)
  rw [List.length_map] at hl
  cases e : ones.getLast? with
  | none =>
    have : ones = [] := List.getLast?_eq_none_iff.mp e
    subst this
    simp at hl
    simp [runBody, c__law_serves, hl, servesF]
  | some p =>
    have hne : ones ≠ [] := by intro h; subst h; cases e
    have hln : ((ones.length : Int) = 0) = False := eq_false (by have := List.length_pos_iff.mpr hne; omega)
    have x1 := ix_lst (k := -1) (listAt_lst hk)
    rw [at_last (v := .tup [.int p.1, .int p.2]) (by rw [List.getLast?_map, e]; rfl)] at x1
    simp only at x1
    have hs : servesF t first ones = servedBy t first ones.length p.1 p.2 := by unfold servesF; rw [e]
    rw [hs]
    have md : ∀ s : Store, binop .mod (.int ones.length) (.int 4) s = .ok (.int ((ones.length % 4 : Nat) : Int)) s := fun s => by
      have := b_mod (st := s) (i := ones.length) (j := 4) (by decide)
      have e5 : ((ones.length : Int) % 4) = ((ones.length % 4 : Nat) : Int) := by omega
      rwa [e5] at this
    cases t with
    | keep => simp [runBody, c__law_serves, hl, hln, Turn.s, servedBy]
    | winner => simp [runBody, c__law_serves, hl, hln, Turn.s, servedBy, x1, hne]
    | on => simp [runBody, c__law_serves, hl, hln, Turn.s, servedBy, x1, hne]
    | each =>
      have hd := end_get (R := st) (c := Cell.dict [(Sum.inr s_each, Val.ref (st.length + 1)), (Sum.inr s_twos, Val.ref (st.length + 1 + 1)), (Sum.inr s_pairs, Val.ref (st.length + 1 + 1 + 1))]) rfl [.lst [.int 0, .int 1, .int 0, .int 1], .lst [.int 0, .int 0, .int 1, .int 1], .lst [.int 0, .int 1, .int 1, .int 0]]
      have hx : ixop (.ref st.length) (.str s_each) (st ++ [Cell.dict [(Sum.inr s_each, Val.ref (st.length + 1)), (Sum.inr s_twos, Val.ref (st.length + 1 + 1)), (Sum.inr s_pairs, Val.ref (st.length + 1 + 1 + 1))], .lst [.int 0, .int 1, .int 0, .int 1], .lst [.int 0, .int 0, .int 1, .int 1], .lst [.int 0, .int 1, .int 1, .int 0]]) = .ok (.ref (st.length + 1)) (st ++ [Cell.dict [(Sum.inr s_each, Val.ref (st.length + 1)), (Sum.inr s_twos, Val.ref (st.length + 1 + 1)), (Sum.inr s_pairs, Val.ref (st.length + 1 + 1 + 1))], .lst [.int 0, .int 1, .int 0, .int 1], .lst [.int 0, .int 0, .int 1, .int 1], .lst [.int 0, .int 1, .int 1, .int 0]]) := by
        simp only [ixop]
        rw [hd]
        simp [ixCell, keyOf, valK]
      have hB := fun k : Int => ix_lst (st := st ++ [Cell.dict [(Sum.inr s_each, Val.ref (st.length + 1)), (Sum.inr s_twos, Val.ref (st.length + 1 + 1)), (Sum.inr s_pairs, Val.ref (st.length + 1 + 1 + 1))], .lst [.int 0, .int 1, .int 0, .int 1], .lst [.int 0, .int 0, .int 1, .int 1], .lst [.int 0, .int 1, .int 1, .int 0], .lst [.int first, .int (1 - first)]]) (n := st.length + 1) (k := k) (xs := [.int 0, .int 1, .int 0, .int 1]) (listAt_lst (by rw [List.getElem?_append_right (by omega)]; simp))
      have hD := fun k : Int => ix_lst (st := st ++ [Cell.dict [(Sum.inr s_each, Val.ref (st.length + 1)), (Sum.inr s_twos, Val.ref (st.length + 1 + 1)), (Sum.inr s_pairs, Val.ref (st.length + 1 + 1 + 1))], .lst [.int 0, .int 1, .int 0, .int 1], .lst [.int 0, .int 0, .int 1, .int 1], .lst [.int 0, .int 1, .int 1, .int 0], .lst [.int first, .int (1 - first)]]) (n := st.length + 4) (k := k) (xs := [.int first, .int (1 - first)]) (listAt_lst (by rw [List.getElem?_append_right (by omega)]; simp))
      have q : ones.length % 4 = 0 ∨ ones.length % 4 = 1 ∨ ones.length % 4 = 2 ∨ ones.length % 4 = 3 := by omega
      have hq : ((ones.length : Int) % 4) = ((ones.length % 4 : Nat) : Int) := by omega
      rcases q with h | h | h | h <;> rw [h] at md hq <;> simp at hq <;> simp [runBody, c__law_serves, hl, hln, hne, Turn.s, servedBy, Turn.same, md, toPairs, keyOf, mergeKV, putKV, hx, hB, hD, hq]
    | twos =>
      have hd := end_get (R := st) (c := Cell.dict [(Sum.inr s_each, Val.ref (st.length + 1)), (Sum.inr s_twos, Val.ref (st.length + 1 + 1)), (Sum.inr s_pairs, Val.ref (st.length + 1 + 1 + 1))]) rfl [.lst [.int 0, .int 1, .int 0, .int 1], .lst [.int 0, .int 0, .int 1, .int 1], .lst [.int 0, .int 1, .int 1, .int 0]]
      have hx : ixop (.ref st.length) (.str s_twos) (st ++ [Cell.dict [(Sum.inr s_each, Val.ref (st.length + 1)), (Sum.inr s_twos, Val.ref (st.length + 1 + 1)), (Sum.inr s_pairs, Val.ref (st.length + 1 + 1 + 1))], .lst [.int 0, .int 1, .int 0, .int 1], .lst [.int 0, .int 0, .int 1, .int 1], .lst [.int 0, .int 1, .int 1, .int 0]]) = .ok (.ref (st.length + 1 + 1)) (st ++ [Cell.dict [(Sum.inr s_each, Val.ref (st.length + 1)), (Sum.inr s_twos, Val.ref (st.length + 1 + 1)), (Sum.inr s_pairs, Val.ref (st.length + 1 + 1 + 1))], .lst [.int 0, .int 1, .int 0, .int 1], .lst [.int 0, .int 0, .int 1, .int 1], .lst [.int 0, .int 1, .int 1, .int 0]]) := by
        simp only [ixop]
        rw [hd]
        simp [ixCell, keyOf, valK]
      have hB := fun k : Int => ix_lst (st := st ++ [Cell.dict [(Sum.inr s_each, Val.ref (st.length + 1)), (Sum.inr s_twos, Val.ref (st.length + 1 + 1)), (Sum.inr s_pairs, Val.ref (st.length + 1 + 1 + 1))], .lst [.int 0, .int 1, .int 0, .int 1], .lst [.int 0, .int 0, .int 1, .int 1], .lst [.int 0, .int 1, .int 1, .int 0], .lst [.int first, .int (1 - first)]]) (n := st.length + 1 + 1) (k := k) (xs := [.int 0, .int 0, .int 1, .int 1]) (listAt_lst (by rw [List.getElem?_append_right (by omega), show st.length + 1 + 1 - st.length = 2 by omega]; rfl))
      have hD := fun k : Int => ix_lst (st := st ++ [Cell.dict [(Sum.inr s_each, Val.ref (st.length + 1)), (Sum.inr s_twos, Val.ref (st.length + 1 + 1)), (Sum.inr s_pairs, Val.ref (st.length + 1 + 1 + 1))], .lst [.int 0, .int 1, .int 0, .int 1], .lst [.int 0, .int 0, .int 1, .int 1], .lst [.int 0, .int 1, .int 1, .int 0], .lst [.int first, .int (1 - first)]]) (n := st.length + 4) (k := k) (xs := [.int first, .int (1 - first)]) (listAt_lst (by rw [List.getElem?_append_right (by omega)]; simp))
      have q : ones.length % 4 = 0 ∨ ones.length % 4 = 1 ∨ ones.length % 4 = 2 ∨ ones.length % 4 = 3 := by omega
      have hq : ((ones.length : Int) % 4) = ((ones.length % 4 : Nat) : Int) := by omega
      rcases q with h | h | h | h <;> rw [h] at md hq <;> simp at hq <;> simp [runBody, c__law_serves, hl, hln, hne, Turn.s, servedBy, Turn.same, md, toPairs, keyOf, mergeKV, putKV, hx, hB, hD, hq]
    | pairs =>
      have hd := end_get (R := st) (c := Cell.dict [(Sum.inr s_each, Val.ref (st.length + 1)), (Sum.inr s_twos, Val.ref (st.length + 1 + 1)), (Sum.inr s_pairs, Val.ref (st.length + 1 + 1 + 1))]) rfl [.lst [.int 0, .int 1, .int 0, .int 1], .lst [.int 0, .int 0, .int 1, .int 1], .lst [.int 0, .int 1, .int 1, .int 0]]
      have hx : ixop (.ref st.length) (.str s_pairs) (st ++ [Cell.dict [(Sum.inr s_each, Val.ref (st.length + 1)), (Sum.inr s_twos, Val.ref (st.length + 1 + 1)), (Sum.inr s_pairs, Val.ref (st.length + 1 + 1 + 1))], .lst [.int 0, .int 1, .int 0, .int 1], .lst [.int 0, .int 0, .int 1, .int 1], .lst [.int 0, .int 1, .int 1, .int 0]]) = .ok (.ref (st.length + 1 + 1 + 1)) (st ++ [Cell.dict [(Sum.inr s_each, Val.ref (st.length + 1)), (Sum.inr s_twos, Val.ref (st.length + 1 + 1)), (Sum.inr s_pairs, Val.ref (st.length + 1 + 1 + 1))], .lst [.int 0, .int 1, .int 0, .int 1], .lst [.int 0, .int 0, .int 1, .int 1], .lst [.int 0, .int 1, .int 1, .int 0]]) := by
        simp only [ixop]
        rw [hd]
        simp [ixCell, keyOf, valK]
      have hB := fun k : Int => ix_lst (st := st ++ [Cell.dict [(Sum.inr s_each, Val.ref (st.length + 1)), (Sum.inr s_twos, Val.ref (st.length + 1 + 1)), (Sum.inr s_pairs, Val.ref (st.length + 1 + 1 + 1))], .lst [.int 0, .int 1, .int 0, .int 1], .lst [.int 0, .int 0, .int 1, .int 1], .lst [.int 0, .int 1, .int 1, .int 0], .lst [.int first, .int (1 - first)]]) (n := st.length + 1 + 1 + 1) (k := k) (xs := [.int 0, .int 1, .int 1, .int 0]) (listAt_lst (by rw [List.getElem?_append_right (by omega), show st.length + 1 + 1 + 1 - st.length = 3 by omega]; rfl))
      have hD := fun k : Int => ix_lst (st := st ++ [Cell.dict [(Sum.inr s_each, Val.ref (st.length + 1)), (Sum.inr s_twos, Val.ref (st.length + 1 + 1)), (Sum.inr s_pairs, Val.ref (st.length + 1 + 1 + 1))], .lst [.int 0, .int 1, .int 0, .int 1], .lst [.int 0, .int 0, .int 1, .int 1], .lst [.int 0, .int 1, .int 1, .int 0], .lst [.int first, .int (1 - first)]]) (n := st.length + 4) (k := k) (xs := [.int first, .int (1 - first)]) (listAt_lst (by rw [List.getElem?_append_right (by omega)]; simp))
      have q : ones.length % 4 = 0 ∨ ones.length % 4 = 1 ∨ ones.length % 4 = 2 ∨ ones.length % 4 = 3 := by omega
      have hq : ((ones.length : Int) % 4) = ((ones.length % 4 : Nat) : Int) := by omega
      rcases q with h | h | h | h <;> rw [h] at md hq <;> simp at hq <;> simp [runBody, c__law_serves, hl, hln, hne, Turn.s, servedBy, Turn.same, md, toPairs, keyOf, mergeKV, putKV, hx, hB, hD, hq]
theorem later_cases (m i : Int) {w : Int} (hw : w = 0 ∨ w = 1) : laterOf m i w = (if w = 0 then (m + 1, i) else (m, i + 1)) := rfl
theorem idx_max (a b : Int) (st : Store) {k : Nat} (hk : st[k]? = some (.lst [.int a, .int b])) : metop .index (.ref k) [.int (imax a b)] st = .ok (.int (if b ≤ a then 0 else 1)) st := by
  simp only [metop]
  rw [listAt_lst hk]
  simp only
  rw [if_pos ⟨rfl, rfl⟩]
  by_cases c : b ≤ a
  · have e : imax a b = a := by unfold imax; rw [if_neg (by omega)]
    rw [e, if_pos c]
    simp [List.findIdx?_cons, flatEq]
  · have e : imax a b = b := by unfold imax; rw [if_pos (by omega)]
    rw [e, if_neg c]
    have : (a == b) = false := by simp; omega
    simp [List.findIdx?_cons, flatEq, this]
end

/-! ### who has won, by the law's own -/
theorem imax_imin (a b : Int) : imax a b - imin a b = iabs (a - b) := by
  unfold imax imin iabs
  split <;> split <;> split <;> omega
section
variable {T : Tab} {gl : Str → Option Val} {W : Nat}
theorem bi_max2 {st : Store} {k : Nat} {a b : Int} (h : st[k]? = some (.lst [.int a, .int b])) : bifn .max [.ref k] st = .ok (.int (imax a b)) st := by
  simp only [bifn]
  rw [listAt_lst h]
  rfl
theorem bi_min2 {st : Store} {k : Nat} {a b : Int} (h : st[k]? = some (.lst [.int a, .int b])) : bifn .min [.ref k] st = .ok (.int (imin a b)) st := by
  simp only [bifn]
  rw [listAt_lst h]
  rfl
/-- who has won, told as an index -/
theorem who_index {g l a b : Int} (hl : 1 ≤ l) : (if imax a b < g ∨ iabs (a - b) < l then none else some (if b < a then (0 : Int) else 1)) = (if g ≤ imax a b ∧ l ≤ imax a b - imin a b then some (if b ≤ a then (0 : Int) else 1) else none) := by
  rw [imax_imin]
  by_cases c : imax a b < g ∨ iabs (a - b) < l
  · have c2 : ¬ (g ≤ imax a b ∧ l ≤ iabs (a - b)) := by omega
    rw [if_pos c, if_neg c2]
  · have c2 : g ≤ imax a b ∧ l ≤ iabs (a - b) := by omega
    rw [if_neg c, if_pos c2]
    have : iabs (a - b) < l ∨ l ≤ iabs (a - b) := by omega
    have hab : a ≠ b := by
      intro h
      subst h
      apply c
      right
      unfold iabs
      split <;> omega
    by_cases d : b < a
    · rw [if_pos d, if_pos (by omega)]
    · rw [if_neg d, if_neg (by omega)]
theorem who_series {n : Nat} (hn : n = 1 ∨ n = 3 ∨ n = 5 ∨ n = 7) {m i w : Int} (hw : w = 0 ∨ w = 1) (h1 : m < (n : Int) / 2 + 1) (h2 : i < (n : Int) / 2 + 1) (h3 : 0 ≤ m) (h4 : 0 ≤ i) : (if imax (laterOf m i w).1 (laterOf m i w).2 < (n : Int) / 2 + 1 ∨ iabs ((laterOf m i w).1 - (laterOf m i w).2) < 1 then none else some (if (laterOf m i w).2 < (laterOf m i w).1 then (0 : Int) else 1)) = (if (n : Int) < 2 * imax (laterOf m i w).1 (laterOf m i w).2 then some (if (laterOf m i w).2 ≤ (laterOf m i w).1 then (0 : Int) else 1) else none) := by
  have hx : (laterOf m i w = (m + 1, i)) ∨ (laterOf m i w = (m, i + 1)) := by
    rcases hw with rfl | rfl
    · exact .inl rfl
    · exact .inr rfl
  rcases hx with hx | hx <;> rw [hx] <;> simp only <;> unfold imax iabs <;> (repeat' split) <;> simp_all <;> omega
theorem e_who (P : Pg T gl) {n : Nat} (hn : 1 ≤ n) {f : Form} (hf : f ≠ .point) (ok : f.ok) (m i w : Int) (hw : w = 0 ∨ w = 1) (h0 : 0 ≤ m) (h1 : 0 ≤ i) (hs : serOk f m i) {k : Nat} {st : Store} (hk : st[k]? = some (.lst [.int (laterOf m i w).1, .int (laterOf m i w).2])) :
    callN T gl W n f__law_who [f.enc, .ref k, .int w] st = .ok (encO (f.decided m i w)) st := by
  rw [call_eq P._law_who hn]
  have hA : (laterOf m i w).1 - (if w = 0 then 1 else 0) = m ∧ (laterOf m i w).2 - (if w = 1 then 1 else 0) = i := by
    rcases hw with rfl | rfl <;> simp [laterOf]
  have hdec : ∀ a g l t, f = .race a g l t → f.decided m i w = (if g ≤ imax (laterOf m i w).1 (laterOf m i w).2 ∧ l ≤ imax (laterOf m i w).1 (laterOf m i w).2 - imin (laterOf m i w).1 (laterOf m i w).2 then some (if (laterOf m i w).2 ≤ (laterOf m i w).1 then (0 : Int) else 1) else none) := by
    intro a g l t e
    subst e
    rw [← who_index ok.2.2.1]
    rfl
  have hdecT : ∀ a g l e b t, f = .tied a g l e b t → f.decided m i w = (if m = e ∧ i = e then some w else if g ≤ imax (laterOf m i w).1 (laterOf m i w).2 ∧ l ≤ imax (laterOf m i w).1 (laterOf m i w).2 - imin (laterOf m i w).1 (laterOf m i w).2 then some (if (laterOf m i w).2 ≤ (laterOf m i w).1 then (0 : Int) else 1) else none) := by
    intro a g l e b t hh
    subst hh
    rw [← who_index ok.2.2.1.1]
    unfold Form.decided
    by_cases c : m = e ∧ i = e
    · rw [if_pos c, if_pos (by simp [Form.lastAt]; omega)]
    · rw [if_neg c, if_neg (by simp [Form.lastAt]; omega)]
      rfl
  have hdecS : ∀ fs t, f = .series fs t → f.decided m i w = (if (fs.length : Int) < 2 * imax (laterOf m i w).1 (laterOf m i w).2 then some (if (laterOf m i w).2 ≤ (laterOf m i w).1 then (0 : Int) else 1) else none) := by
    intro fs t hh
    subst hh
    have hs : m < (fs.length : Int) / 2 + 1 ∧ i < (fs.length : Int) / 2 + 1 := hs
    rw [← who_series ok.2 hw hs.1 hs.2 h0 h1]
    rfl
  generalize (laterOf m i w).1 = a at hk hA hdec hdecT hdecS
  generalize (laterOf m i w).2 = b at hk hA hdec hdecT hdecS
  have x0 := ix_lst (k := 0) (listAt_lst hk)
  have x1 := ix_lst (k := 1) (listAt_lst hk)
  rw [at_0] at x0
  rw [at_1] at x1
  simp only at x0 x1
  have hmx := bi_max2 hk
  have hmn := bi_min2 hk
  have ix := fun g : Store => idx_max a b (st ++ g) (app_get hk)
  have hmt := fun g : Store => mk_app (m := .index) (by decide) (app_get (g := g) hk)
  have ix0 := idx_max a b st hk
  have hmt0 := mk_app (m := .index) (by decide) hk
  have hw0 : cmpop .eq (.int w) (.int 0) st = .ok (.bool (decide (w = 0))) st := by simp
  have hA0 : (a - if decide (w = 0) = true then 1 else 0) = m := by simpa using hA.1
  have hA1 : (b - if decide (w = 1) = true then 1 else 0) = i := by simpa using hA.2
  simp only [decide_eq_true_eq] at hA0 hA1
  cases f with
  | point => exact absurd rfl hf
  | race c g l t =>
    rw [hdec c g l t rfl]
    have z : ∀ o : Option Int, gc st (encO o) (st ++ [.lst [.int m, .int i]]) = .ok (encO o) st := fun o => gc_app (by cases o <;> rfl)
    by_cases c1 : g ≤ imax a b
    · by_cases c2 : l ≤ imax a b - imin a b
      · simp [runBody, c__law_who, Form.enc, hmx, hmn, x0, x1, hA0, hA1, c1, c2, ix, hmt, encO]
      · simp [runBody, c__law_who, Form.enc, hmx, hmn, x0, x1, hA0, hA1, c1, c2, ix, hmt, encO]
    · simp [runBody, c__law_who, Form.enc, hmx, hmn, x0, x1, hA0, hA1, c1, ix, hmt, encO]
  | tied c g l e d t =>
    rw [hdecT c g l e d t rfl]
    have hk2 : listAt (st ++ [.lst [.int m, .int i], .lst [.int e, .int e]]) st.length = some ([m, i].map Val.int) := listAt_lst (end_get rfl _)
    have he : listAt (st ++ [.lst [.int m, .int i], .lst [.int e, .int e]]) (st.length + 1) = some ([e, e].map Val.int) := listAt_lst (by rw [List.getElem?_append_right (by omega)]; simp)
    have q := eq_ints hk2 he
    by_cases cc : m = e ∧ i = e
    · obtain ⟨rfl, rfl⟩ := cc
      simp at q
      simp [runBody, c__law_who, Form.enc, hmx, hmn, x0, x1, hA0, hA1, q, encO]
    · simp [cc] at q
      by_cases c1 : g ≤ imax a b
      · by_cases c2 : l ≤ imax a b - imin a b
        · simp [runBody, c__law_who, Form.enc, hmx, hmn, x0, x1, hA0, hA1, c1, c2, ix, hmt, encO, q, cc]
        · simp [runBody, c__law_who, Form.enc, hmx, hmn, x0, x1, hA0, hA1, c1, c2, ix, hmt, encO, q, cc]
      · simp [runBody, c__law_who, Form.enc, hmx, hmn, x0, x1, hA0, hA1, c1, ix, hmt, encO, q, cc]
  | series fs t =>
    rw [hdecS fs t rfl]
    have ml : binop .mul (.int 2) (.int (imax a b)) st = .ok (.int (2 * imax a b)) st := by
      show need _ _ = _
      exact need_pos (.inl (by decide))
    by_cases c1 : (fs.length : Int) < 2 * imax a b
    · simp [runBody, c__law_who, Form.enc, hmx, hmn, ml, encL_length, c1, ix0, hmt0, encO]
    · simp [runBody, c__law_who, Form.enc, hmx, hmn, ml, encL_length, c1, encO]
end

/-! ### the law's own play -/
/-- a store that only grew -/
def Grow (a b : Store) : Prop := ∃ g, b = a ++ g
theorem Grow.refl (a : Store) : Grow a a := ⟨[], (List.append_nil a).symm⟩
theorem Grow.trans {a b c : Store} (h1 : Grow a b) (h2 : Grow b c) : Grow a c := by
  obtain ⟨g, rfl⟩ := h1
  obtain ⟨k, rfl⟩ := h2
  exact ⟨g ++ k, List.append_assoc a g k⟩
theorem Grow.get {a b : Store} (h : Grow a b) {i : Nat} {c : Cell} (e : a[i]? = some c) : b[i]? = some c := by
  obtain ⟨g, rfl⟩ := h
  exact app_get e
theorem Grow.len {a b : Store} (h : Grow a b) : a.length ≤ b.length := by
  obtain ⟨g, rfl⟩ := h
  simp
theorem Grow.app {a b : Store} (h : Grow a b) (g : Store) : Grow a (b ++ g) := h.trans ⟨g, rfl⟩
theorem Grow.set {a b : Store} (h : Grow a b) {r : Nat} {c : Cell} (hr : a.length ≤ r) : Grow a (b.set r c) := by
  obtain ⟨g, rfl⟩ := h
  exact ⟨g.set (r - a.length) c, List.set_append_right _ _ hr⟩
theorem set_get_ne {s : Store} {i j : Nat} {c d : Cell} (h : i ≠ j) (e : s[i]? = some d) : (s.set j c)[i]? = some d := by
  rw [List.getElem?_set_ne (Ne.symm h)]; exact e
theorem set_get {s : Store} {j : Nat} {c d : Cell} (e : s[j]? = some d) : (s.set j c)[j]? = some c := by
  rw [List.getElem?_set_self (lt_of_some e)]
theorem gc_dict {old st : Store} {r : Nat} {kvs : List (Sum Int Str × Val)} (hr : old.length ≤ r) (e : st[r]? = some (.dict kvs)) : gc old (.ref r) st = .ok (.ref r) st := by
  unfold gc
  cases mergeS old.length old st with
  | none => rfl
  | some s2 =>
    have : (Val.ref r).lowB old.length = false := by simp; omega
    simp only [this, e]
    rfl
def pKV (e : Int) (who : Option Int) (tail : Int) (p : Nat) (srv : Option Int) : List (Sum Int Str × Val) := [(.inr s_end, .int e), (.inr s_who, encO who), (.inr s_tail, .int tail), (.inr s_pairs, .ref p), (.inr s_server, encO srv)]
def pDict (e : Int) (who : Option Int) (tail : Int) (p : Nat) (srv : Option Int) : Cell := .dict (pKV e who tail p srv)
section
variable {st : Store} {r p : Nat} {e tail : Int} {who srv : Option Int}
theorem ix_end (h : st[r]? = some (pDict e who tail p srv)) : ixop (.ref r) (.str s_end) st = .ok (.int e) st := by
  simp [ixop, h, pDict, pKV, ixCell, keyOf, valK]
theorem ix_who (h : st[r]? = some (pDict e who tail p srv)) : ixop (.ref r) (.str s_who) st = .ok (encO who) st := by
  simp [ixop, h, pDict, pKV, ixCell, keyOf, valK]
theorem ix_tail (h : st[r]? = some (pDict e who tail p srv)) : ixop (.ref r) (.str s_tail) st = .ok (.int tail) st := by
  simp [ixop, h, pDict, pKV, ixCell, keyOf, valK]
theorem ix_pairs (h : st[r]? = some (pDict e who tail p srv)) : ixop (.ref r) (.str s_pairs) st = .ok (.ref p) st := by
  simp [ixop, h, pDict, pKV, ixCell, keyOf, valK]
theorem ix_server (h : st[r]? = some (pDict e who tail p srv)) : ixop (.ref r) (.str s_server) st = .ok (encO srv) st := by
  simp [ixop, h, pDict, pKV, ixCell, keyOf, valK]
theorem st_pairs {q : Nat} (h : st[r]? = some (pDict e who tail p srv)) : subStore (.ref r) (.str s_pairs) (.ref q) st = .ok () (st.set r (pDict e who tail q srv)) := by
  have h5 : 5 < sizeLine := by rw [sizeLine_eq]; omega
  simp [subStore, h, pDict, pKV, keyOf, putKV, h5]
theorem st_tail {t : Int} (h : st[r]? = some (pDict e who tail p srv)) : subStore (.ref r) (.str s_tail) (.int t) st = .ok () (st.set r (pDict e who t p srv)) := by
  have h5 : 5 < sizeLine := by rw [sizeLine_eq]; omega
  simp [subStore, h, pDict, pKV, keyOf, putKV, h5]
theorem lit_play : mergeKV [] (pKV e who tail p srv) = pKV e who tail p srv := by
  simp [mergeKV, putKV, pKV]
end
def encPr (p : Int × Int) : Val := .tup [.int p.1, .int p.2]
/-- what `_law_play` gives -/
def PlayRes (st : Store) (row : List Int) (q : State × List Int) (res : Res Val) : Prop :=
  ∃ s' r p tail, res = .ok (.ref r) s' ∧ Grow st s' ∧ st.length ≤ r ∧ s'[r]? = some (pDict ((row.length : Int) - q.2.length) (winnerS q.1) tail p (serverS q.1)) ∧ s'[p]? = some (.lst ((pairsS q.1).map encPr)) ∧ ∀ w t l, q.1 = .over w t l → tail = t
theorem run_suffix : ∀ (row : List Int) (S : State), ∃ pre, row = pre ++ (runTo S row).2
  | [], S => ⟨[], rfl⟩
  | w :: r, S => by
    by_cases h : S.isOver = true
    · exact ⟨[], by simp [runTo, h]⟩
    · obtain ⟨pre, e⟩ := run_suffix r (pushed S w).1
      refine ⟨w :: pre, ?_⟩
      simp only [runTo, if_neg h, List.cons_append]
      rw [← e]
theorem run_good : ∀ (row : List Int) (S : State), S.good → sides row → (runTo S row).1.good
  | [], S, h, _ => h
  | w :: r, S, h, hr => by
    by_cases ho : S.isOver = true
    · simp only [runTo, if_pos ho]; exact h
    · simp only [runTo, if_neg ho]
      exact run_good r _ (pushed_good h (by simpa using ho) (hr w List.mem_cons_self)).1 fun x hx => hr x (List.mem_cons_of_mem _ hx)
theorem begun_first (f : Form) (s : Int) : (begun f s).first = s := by cases f <;> rfl
theorem sides_drop {row : List Int} (h : sides row) (k : Nat) : sides (row.drop k) := fun x hx => h x (List.mem_of_mem_drop hx)
theorem later_sum (m i w : Int) : (laterOf m i w).1 + (laterOf m i w).2 = m + i + 1 := by unfold laterOf; split <;> simp <;> omega
theorem servesF_app (t : Turn) (first : Int) (ones : List (Int × Int)) (w x : Int) : servesF t first (ones ++ [(w, x)]) = servedBy t first ((ones.length : Int) + 1) w x := by
  unfold servesF
  simp
theorem servedBy_01 {t : Turn} {first k w x : Int} (h1 : first = 0 ∨ first = 1) (h2 : w = 0 ∨ w = 1) (h3 : x = 0 ∨ x = 1) : servedBy t first k w x = 0 ∨ servedBy t first k w x = 1 := by
  unfold servedBy
  split
  · exact h2
  · omega
  · exact h1
  · split <;> omega
theorem drop_suffix {row pre left : List Int} {at_ : Nat} (h : row.drop at_ = pre ++ left) : row.drop (row.length - left.length) = left := by
  have e1 : row = row.take at_ ++ pre ++ left := by rw [List.append_assoc, ← h, List.take_append_drop]
  generalize row.take at_ ++ pre = p at e1
  subst e1
  rw [List.length_append, Nat.add_sub_cancel]
  exact List.drop_left
def lpB : CS := (.seq (.set 6 (.call f__law_serves (.cons (.ix (.var 0) (.neg (.int_ 1))) (.cons (.var 1) (.cons (.var 5) .nil))))) (.seq (.set 7 (.call f__law_play (.cons (.call f__law_inner (.cons (.var 0) (.cons (.var 4) .nil))) (.cons (.var 6) (.cons (.var 2) (.cons (.var 3) .nil)))))) (.seq (.if_ (.cmp .is_ (.ix (.var 7) (.str_ s_who)) .none_) (.seq (.sub (.var 7) (.str_ s_pairs) (.bin .add (.lst (.cons (.bi .tuple (.cons (.var 4) .nil)) .nil)) (.ix (.var 7) (.str_ s_pairs)))) (.seq (.sub (.var 7) (.str_ s_tail) (.var 6)) (.seq (.ret (.var 7)) .skip))) .skip) (.seq (.expr (.meth .append (.var 5) (.cons (.tup (.cons (.ix (.var 7) (.str_ s_who)) (.cons (.ix (.var 7) (.str_ s_tail)) .nil))) .nil))) (.seq (.sub (.var 4) (.ix (.var 7) (.str_ s_who)) (.bin .add (.ix (.var 4) (.ix (.var 7) (.str_ s_who))) (.int_ 1))) (.seq (.set 3 (.ix (.var 7) (.str_ s_end))) (.seq (.set 8 (.call f__law_who (.cons (.var 0) (.cons (.var 4) (.cons (.ix (.var 7) (.str_ s_who)) .nil))))) (.seq (.if_ (.cmp .isnot (.var 8) .none_) (.seq (.ret (.dict (.kv (.str_ s_end) (.var 3) (.kv (.str_ s_who) (.var 8) (.kv (.str_ s_tail) (.var 6) (.kv (.str_ s_pairs) (.lst (.cons (.bi .tuple (.cons (.var 4) .nil)) .nil)) (.kv (.str_ s_server) .none_ .nil))))))) .skip) .skip) .skip))))))))
theorem while_go {c : Env → Store → Res Bool} {b : Env → Store → Res (Flow × Env)} {n : Nat} {env env1 : Env} {st s1 : Store} (hn : 1 ≤ n) (hc : c env st = .ok true st) (hb : b env st = .ok (.next, env1) s1) : whileLoop c b n env st = whileLoop c b (n - 1) env1 s1 := by
  obtain ⟨m, rfl⟩ : ∃ m, n = m + 1 := ⟨n - 1, by omega⟩
  rw [whileLoop, hc, bind_ok, if_pos rfl, hb, bind_ok]
  rfl
theorem while_ret {c : Env → Store → Res Bool} {b : Env → Store → Res (Flow × Env)} {n : Nat} {env env1 : Env} {st s1 : Store} {v : Val} (hn : 1 ≤ n) (hc : c env st = .ok true st) (hb : b env st = .ok (.ret v, env1) s1) : whileLoop c b n env st = .ok (.ret v, env1) s1 := by
  obtain ⟨m, rfl⟩ : ∃ m, n = m + 1 := ⟨n - 1, by omega⟩
  rw [whileLoop, hc, bind_ok, if_pos rfl, hb, bind_ok]
theorem while_stop {c : Env → Store → Res Bool} {b : Env → Store → Res (Flow × Env)} {n : Nat} {env : Env} {st : Store} (hn : 1 ≤ n) (hc : c env st = .ok false st) : whileLoop c b n env st = .ok (.next, env) st := by
  obtain ⟨m, rfl⟩ : ∃ m, n = m + 1 := ⟨n - 1, by omega⟩
  rw [whileLoop, hc, bind_ok]
  exact if_neg (by decide)
theorem seq_ret {F : Fns} {s r : CS} {env env1 : Env} {st st1 : Store} {v : Val} (h : evalS F s env st = .ok (.ret v, env1) st1) : evalS F (.seq s r) env st = .ok (.ret v, env1) st1 := by
  rw [es_seq, h, bindX_ok]
section
variable {T : Tab} {gl : Str → Option Val} {W : Nat}
/-- the law's play of the contests within -/
def LIn (T : Tab) (gl : Str → Option Val) (W n : Nat) (D : Nat) (row : List Int) (k : Nat) : Prop := ∀ (g : Form) (first : Int) (st : Store) (at_ : Nat), g.deep ≤ D → g.ok → (first = 0 ∨ first = 1) → st[k]? = some (.lst (row.map Val.int)) → at_ ≤ row.length → PlayRes st row (runTo (begun g first) (row.drop at_)) (callN T gl W n f__law_play [g.enc, .int first, .ref k, .int (at_ : Int)] st)
theorem lp_body (P : Pg T gl) {n D : Nat} (hn : 1 ≤ n) {row : List Int} {k : Nat} (ih : LIn T gl W n D row k) (hr : sides row) {f : Form} (hf : f ≠ .point) (ok : f.ok) (hd : f.deep ≤ D + 1) (h4 : D ≤ 3) {first : Int} (h01 : first = 0 ∨ first = 1)
    {m i : Int} (h0 : 0 ≤ m) (h1 : 0 ≤ i) (hs : serOk f m i) {ones : List (Int × Int)} (hb : servesF f.turn first ones = 0 ∨ servesF f.turn first ones = 1) (hon : (ones.length : Int) = m + i) (hlen : ones.length < 1000) {at_ : Nat} (hat : at_ ≤ row.length)
    {st s : Store} {a b : Nat} (hG : Grow st s) (ha : st.length ≤ a) (hb2 : st.length ≤ b) (hab : a ≠ b) (hk : st[k]? = some (.lst (row.map Val.int))) (hA : s[a]? = some (.lst [.int m, .int i])) (hB : s[b]? = some (.lst (ones.map encPr))) (v6 v7 v8 : Option Val) :
    (∃ s' v env, evalS ⟨callN T gl W n, gl, W⟩ lpB [some f.enc, some (.int first), some (.ref k), some (.int at_), some (.ref a), some (.ref b), v6, v7, v8] s = .ok (.ret v, env) s' ∧ PlayRes st row (runTo (.co f first m i (begun (f.innerAt m i) (servesF f.turn first ones))) (row.drop at_)) (.ok v s')) ∨
    (∃ s' w t at2 u6 u7 u8, evalS ⟨callN T gl W n, gl, W⟩ lpB [some f.enc, some (.int first), some (.ref k), some (.int at_), some (.ref a), some (.ref b), v6, v7, v8] s = .ok (.next, [some f.enc, some (.int first), some (.ref k), some (.int ((at2 : Nat) : Int)), some (.ref a), some (.ref b), u6, u7, u8]) s' ∧ Grow st s' ∧ s'[a]? = some (.lst [.int (laterOf m i w).1, .int (laterOf m i w).2]) ∧ s'[b]? = some (.lst ((ones ++ [(w, t)]).map encPr)) ∧ at_ < at2 ∧ at2 ≤ row.length ∧ (w = 0 ∨ w = 1) ∧ (t = 0 ∨ t = 1) ∧ serOk f (laterOf m i w).1 (laterOf m i w).2 ∧
      runTo (.co f first m i (begun (f.innerAt m i) (servesF f.turn first ones))) (row.drop at_) = runTo (.co f first (laterOf m i w).1 (laterOf m i w).2 (begun (f.innerAt (laterOf m i w).1 (laterOf m i w).2) (servesF f.turn first (ones ++ [(w, t)])))) (row.drop at2)) := by
  have rm := series_room ok h0 h1 hs
  have q := inner_deep hf rm
  obtain ⟨fx, ft1, ft2⟩ := turn_last f hf
  have hlast := at_last ft2
  have e_s := e_serves (W := W) P (n := n) hn f.turn first ones hB
  have e_i := e_linner (W := W) P (n := n) hn hf m i h0 h1 rm hA
  generalize hby : servesF f.turn first ones = by_ at *
  obtain ⟨s2, r, p, tail, e2, g2, hr2, hd2, hp2, ht2⟩ := ih (f.innerAt m i) by_ s at_ (by omega) (q.2 ok) hb (hG.get hk) hat
  have hI : (begun (f.innerAt m i) by_).isOver = false := begun_over _ _
  have hgoodI : (begun (f.innerAt m i) by_).good := good_begun 4 _ _ (by omega) (q.2 ok) (by omega) hb
  have rc := run_co (f := f) (s := first) (m := m) (i := i) (row.drop at_) (begun (f.innerAt m i) by_) hI
  have hgood := run_good (row.drop at_) _ hgoodI (sides_drop hr at_)
  obtain ⟨pre, hsuf⟩ := run_suffix (row.drop at_) (begun (f.innerAt m i) by_)
  -- who serves; the contest within
  have b1 : evalS ⟨callN T gl W n, gl, W⟩ (.set 6 (.call f__law_serves (.cons (.ix (.var 0) (.neg (.int_ 1))) (.cons (.var 1) (.cons (.var 5) .nil))))) [some f.enc, some (.int first), some (.ref k), some (.int at_), some (.ref a), some (.ref b), v6, v7, v8] s = .ok (.next, [some f.enc, some (.int first), some (.ref k), some (.int at_), some (.ref a), some (.ref b), some (.int by_), v7, v8]) s := by
    rw [ft1]
    simp [hlast, e_s]
  have b2 : evalS ⟨callN T gl W n, gl, W⟩ (.set 7 (.call f__law_play (.cons (.call f__law_inner (.cons (.var 0) (.cons (.var 4) .nil))) (.cons (.var 6) (.cons (.var 2) (.cons (.var 3) .nil)))))) [some f.enc, some (.int first), some (.ref k), some (.int at_), some (.ref a), some (.ref b), some (.int by_), v7, v8] s = .ok (.next, [some f.enc, some (.int first), some (.ref k), some (.int at_), some (.ref a), some (.ref b), some (.int by_), some (.ref r), v8]) s2 := by
    simp [e_i, e2]
  have hA2 := g2.get hA
  have hB2 := g2.get hB
  have hxw := ix_who hd2
  have hal := lt_of_some hA
  have hbl := lt_of_some hB
  have hrl := lt_of_some hd2
  unfold lpB
  rw [seq_next b1, seq_next b2]
  generalize hX : runTo (begun (f.innerAt m i) by_) (row.drop at_) = X at *
  obtain ⟨S, left⟩ := X
  simp only at *
  cases hov : S.isOver with
  | false =>
    left
    obtain ⟨r1, r2⟩ := rc.1 hov
    subst r2
    have hwn : winnerS S = none := by cases S <;> first | rfl | cases hov
    rw [hwn] at hxw hd2
    have hpt : bifn .tuple [.ref a] s2 = .ok (.tup [.int m, .int i]) s2 := bi_tupL (listAt_lst hA2)
    -- the pairs
    have hd3 : (s2 ++ [Cell.lst [.tup [.int m, .int i]], Cell.lst (.tup [.int m, .int i] :: (pairsS S).map encPr)])[r]? = some (pDict ((row.length : Int) - ([] : List Int).length) none tail p (serverS S)) := app_get hd2
    have hx2 : ixop (.ref r) (.str s_pairs) (s2 ++ [Cell.lst [.tup [.int m, .int i]]]) = .ok (.ref p) (s2 ++ [Cell.lst [.tup [.int m, .int i]]]) := ix_pairs (app_get hd2)
    have hp3 : (s2 ++ [Cell.lst [.tup [.int m, .int i]]])[p]? = some (.lst ((pairsS S).map encPr)) := app_get hp2
    have hlp : (pairsS S).length ≤ 1000 := by
      have := pairs_len S
      have := lev_good hgood
      omega
    have had : binop .add (.ref s2.length) (.ref p) (s2 ++ [Cell.lst [.tup [.int m, .int i]]]) = .ok (.ref (s2.length + 1)) (s2 ++ [Cell.lst [.tup [.int m, .int i]], Cell.lst (.tup [.int m, .int i] :: (pairsS S).map encPr)]) := by
      show (match (s2 ++ [Cell.lst [.tup [.int m, .int i]]])[s2.length]?, (s2 ++ [Cell.lst [.tup [.int m, .int i]]])[p]? with
        | some (.lst xs), some (.lst ys) => need (xs.length + ys.length ≤ sizeLine) (Res.ok (Val.ref (s2 ++ [Cell.lst [.tup [.int m, .int i]]]).length) ((s2 ++ [Cell.lst [.tup [.int m, .int i]]]) ++ [Cell.lst (xs ++ ys)]))
        | _, _ => .stuck) = _
      rw [end_get rfl [], hp3]
      simp only
      rw [need_pos (small_line (by simp; omega))]
      simp
    have b3 : evalS ⟨callN T gl W n, gl, W⟩ (.sub (.var 7) (.str_ s_pairs) (.bin .add (.lst (.cons (.bi .tuple (.cons (.var 4) .nil)) .nil)) (.ix (.var 7) (.str_ s_pairs)))) [some f.enc, some (.int first), some (.ref k), some (.int at_), some (.ref a), some (.ref b), some (.int by_), some (.ref r), v8] s2 = .ok (.next, [some f.enc, some (.int first), some (.ref k), some (.int at_), some (.ref a), some (.ref b), some (.int by_), some (.ref r), v8]) ((s2 ++ [Cell.lst [.tup [.int m, .int i]], Cell.lst (.tup [.int m, .int i] :: (pairsS S).map encPr)]).set r (pDict ((row.length : Int) - ([] : List Int).length) none tail (s2.length + 1) (serverS S))) := by
      simp only [es_sub]
      simp [hpt, hx2, had]
      rw [st_pairs hd3]
      simp
    have hd4 := set_get (c := pDict ((row.length : Int) - ([] : List Int).length) none tail (s2.length + 1) (serverS S)) hd3
    have b4 : ∀ s3 : Store, s3[r]? = some (pDict ((row.length : Int) - ([] : List Int).length) none tail (s2.length + 1) (serverS S)) → evalS ⟨callN T gl W n, gl, W⟩ (.seq (.sub (.var 7) (.str_ s_tail) (.var 6)) (.seq (.ret (.var 7)) .skip)) [some f.enc, some (.int first), some (.ref k), some (.int at_), some (.ref a), some (.ref b), some (.int by_), some (.ref r), v8] s3 = .ok (.ret (.ref r), [some f.enc, some (.int first), some (.ref k), some (.int at_), some (.ref a), some (.ref b), some (.int by_), some (.ref r), v8]) (s3.set r (pDict ((row.length : Int) - ([] : List Int).length) none by_ (s2.length + 1) (serverS S))) := by
      intro s3 h3
      simp [st_tail h3]
    have bb : evalS ⟨callN T gl W n, gl, W⟩ (.if_ (.cmp .is_ (.ix (.var 7) (.str_ s_who)) .none_) (.seq (.sub (.var 7) (.str_ s_pairs) (.bin .add (.lst (.cons (.bi .tuple (.cons (.var 4) .nil)) .nil)) (.ix (.var 7) (.str_ s_pairs)))) (.seq (.sub (.var 7) (.str_ s_tail) (.var 6)) (.seq (.ret (.var 7)) .skip))) .skip) [some f.enc, some (.int first), some (.ref k), some (.int at_), some (.ref a), some (.ref b), some (.int by_), some (.ref r), v8] s2 = evalS ⟨callN T gl W n, gl, W⟩ (.seq (.sub (.var 7) (.str_ s_pairs) (.bin .add (.lst (.cons (.bi .tuple (.cons (.var 4) .nil)) .nil)) (.ix (.var 7) (.str_ s_pairs)))) (.seq (.sub (.var 7) (.str_ s_tail) (.var 6)) (.seq (.ret (.var 7)) .skip))) [some f.enc, some (.int first), some (.ref k), some (.int at_), some (.ref a), some (.ref b), some (.int by_), some (.ref r), v8] s2 := by
      rw [es_if]
      simp [hxw, encO, -es_seq, -es_sub]
    rw [seq_next b3, b4 _ hd4] at bb
    refine ⟨_, _, _, seq_ret bb, _, r, s2.length + 1, by_, rfl, ?_, ?_, ?_, ?_, ?_⟩
    · exact Grow.set (Grow.set (Grow.app (hG.trans g2) _) (by have := hG.len; omega)) (by have := hG.len; omega)
    · have := hG.len; omega
    · rw [r1]
      exact set_get hd4
    · rw [r1]
      refine set_get_ne (by omega) (set_get_ne (by omega) ?_)
      rw [List.getElem?_append_right (by omega)]
      simp [pairsS, encPr]
    · intro w t l e
      rw [r1] at e
      cases e
  | true =>
    cases S with
    | pt _ => cases hov
    | co _ _ _ _ _ => cases hov
    | over w t l =>
      have htl := ht2 w t l rfl
      subst htl
      obtain ⟨r1, r2⟩ := rc.2 w tail l rfl
      have hw : w = 0 ∨ w = 1 := hgood.1
      have ht : tail = 0 ∨ tail = 1 := hgood.2
      have hlen2 : (row.drop at_).length = row.length - at_ := List.length_drop
      have hend : ((row.length : Int) - left.length) = ((row.length - left.length : Nat) : Int) := by omega
      have hdrop : row.drop (row.length - left.length) = left := drop_suffix hsuf
      have b3 : evalS ⟨callN T gl W n, gl, W⟩ (.if_ (.cmp .is_ (.ix (.var 7) (.str_ s_who)) .none_) (.seq (.sub (.var 7) (.str_ s_pairs) (.bin .add (.lst (.cons (.bi .tuple (.cons (.var 4) .nil)) .nil)) (.ix (.var 7) (.str_ s_pairs)))) (.seq (.sub (.var 7) (.str_ s_tail) (.var 6)) (.seq (.ret (.var 7)) .skip))) .skip) [some f.enc, some (.int first), some (.ref k), some (.int at_), some (.ref a), some (.ref b), some (.int by_), some (.ref r), v8] s2 = .ok (.next, [some f.enc, some (.int first), some (.ref k), some (.int at_), some (.ref a), some (.ref b), some (.int by_), some (.ref r), v8]) s2 := by
        rw [es_if]
        simp [hxw, encO, winnerS, -es_seq, -es_sub]
      have hmt := mk_app (m := .append) (by decide) hB2
      have happ : metop .append (.ref b) [.tup [.int w, .int tail]] s2 = _ := m_append hB2 (Nat.lt_of_lt_of_le (m := 1000) (by simp; omega) (small_line (by decide)))
      have hB3 : (ones.map encPr) ++ [.tup [.int w, .int tail]] = (ones ++ [(w, tail)]).map encPr := by simp [encPr]
      rw [hB3] at happ
      have hxt := ix_tail hd2
      have b4 : evalS ⟨callN T gl W n, gl, W⟩ (.expr (.meth .append (.var 5) (.cons (.tup (.cons (.ix (.var 7) (.str_ s_who)) (.cons (.ix (.var 7) (.str_ s_tail)) .nil))) .nil))) [some f.enc, some (.int first), some (.ref k), some (.int at_), some (.ref a), some (.ref b), some (.int by_), some (.ref r), v8] s2 = .ok (.next, [some f.enc, some (.int first), some (.ref k), some (.int at_), some (.ref a), some (.ref b), some (.int by_), some (.ref r), v8]) (s2.set b (.lst ((ones ++ [(w, tail)]).map encPr))) := by
        simp [hmt, hxw, hxt, encO, winnerS, happ]
      have hA3 : (s2.set b (.lst ((ones ++ [(w, tail)]).map encPr)))[a]? = some (.lst [.int m, .int i]) := set_get_ne hab hA2
      have hd3 : (s2.set b (.lst ((ones ++ [(w, tail)]).map encPr)))[r]? = some (pDict ((row.length : Int) - left.length) (some w) tail p none) := set_get_ne (by omega) hd2
      have hB4 : (s2.set b (.lst ((ones ++ [(w, tail)]).map encPr)))[b]? = some (.lst ((ones ++ [(w, tail)]).map encPr)) := set_get hB2
      have hG3 : Grow st (s2.set b (.lst ((ones ++ [(w, tail)]).map encPr))) := Grow.set (hG.trans g2) hb2
      generalize (s2.set b (.lst ((ones ++ [(w, tail)]).map encPr))) = s3 at *
      have hxa := ix_lst (k := w) (listAt_lst hA3)
      have hitem : L2.atI [Val.int m, .int i] w = some (.int (if w = 0 then m else i)) := by
        rcases hw with rfl | rfl
        · exact at_0
        · exact at_1
      rw [hitem] at hxa
      simp only at hxa
      have hsub : subStore (.ref a) (.int w) (.int ((if w = 0 then m else i) + 1)) s3 = .ok () (s3.set a (.lst [.int (laterOf m i w).1, .int (laterOf m i w).2])) := by
        rcases hw with rfl | rfl
        · simp [subStore, hA3, L2.ixN, laterOf]
        · simp [subStore, hA3, L2.ixN, laterOf]
      have b5 : evalS ⟨callN T gl W n, gl, W⟩ (.sub (.var 4) (.ix (.var 7) (.str_ s_who)) (.bin .add (.ix (.var 4) (.ix (.var 7) (.str_ s_who))) (.int_ 1))) [some f.enc, some (.int first), some (.ref k), some (.int at_), some (.ref a), some (.ref b), some (.int by_), some (.ref r), v8] s3 = .ok (.next, [some f.enc, some (.int first), some (.ref k), some (.int at_), some (.ref a), some (.ref b), some (.int by_), some (.ref r), v8]) (s3.set a (.lst [.int (laterOf m i w).1, .int (laterOf m i w).2])) := by
        simp [ix_who hd3, encO, hxa, hsub]
      have hA4 : (s3.set a (.lst [.int (laterOf m i w).1, .int (laterOf m i w).2]))[a]? = some (.lst [.int (laterOf m i w).1, .int (laterOf m i w).2]) := set_get hA3
      have hd4 : (s3.set a (.lst [.int (laterOf m i w).1, .int (laterOf m i w).2]))[r]? = some (pDict ((row.length : Int) - left.length) (some w) tail p none) := set_get_ne (by omega) hd3
      have hB5 : (s3.set a (.lst [.int (laterOf m i w).1, .int (laterOf m i w).2]))[b]? = some (.lst ((ones ++ [(w, tail)]).map encPr)) := set_get_ne (Ne.symm hab) hB4
      have hG4 : Grow st (s3.set a (.lst [.int (laterOf m i w).1, .int (laterOf m i w).2])) := Grow.set hG3 ha
      generalize (s3.set a (.lst [.int (laterOf m i w).1, .int (laterOf m i w).2])) = s4 at *
      have b6 : evalS ⟨callN T gl W n, gl, W⟩ (.set 3 (.ix (.var 7) (.str_ s_end))) [some f.enc, some (.int first), some (.ref k), some (.int at_), some (.ref a), some (.ref b), some (.int by_), some (.ref r), v8] s4 = .ok (.next, [some f.enc, some (.int first), some (.ref k), some (.int ((row.length - left.length : Nat) : Int)), some (.ref a), some (.ref b), some (.int by_), some (.ref r), v8]) s4 := by
        rw [← hend]
        simp [ix_end hd4]
      have hwho := e_who (W := W) P (n := n) hn hf ok m i w hw h0 h1 hs hA4
      have b7 : evalS ⟨callN T gl W n, gl, W⟩ (.set 8 (.call f__law_who (.cons (.var 0) (.cons (.var 4) (.cons (.ix (.var 7) (.str_ s_who)) .nil))))) [some f.enc, some (.int first), some (.ref k), some (.int ((row.length - left.length : Nat) : Int)), some (.ref a), some (.ref b), some (.int by_), some (.ref r), v8] s4 = .ok (.next, [some f.enc, some (.int first), some (.ref k), some (.int ((row.length - left.length : Nat) : Int)), some (.ref a), some (.ref b), some (.int by_), some (.ref r), some (encO (f.decided m i w))]) s4 := by
        simp [ix_who hd4, encO] at hwho ⊢
        simp [hwho]
      rw [seq_next b3, seq_next b4, seq_next b5, seq_next b6, seq_next b7]
      have hpt : ∀ g : Store, bifn .tuple [.ref a] (s4 ++ g) = .ok (.tup [.int (laterOf m i w).1, .int (laterOf m i w).2]) (s4 ++ g) := fun g => bi_tupL (listAt_lst (app_get hA4))
      cases hdc : f.decided m i w with
      | some who =>
        left
        have hbh : behindS f first m i (begun (f.innerAt m i) by_) w tail = .over who by_ (some (laterOf m i w)) := by
          unfold behindS
          rw [hdc, begun_first]
        rw [hbh, run_over (S := .over who by_ (some (laterOf m i w))) rfl] at r1
        refine ⟨(s4 ++ [pDict ((row.length : Int) - left.length) (some who) by_ (s4.length + 1) none, Cell.lst [.tup [.int (laterOf m i w).1, .int (laterOf m i w).2]]]), .ref s4.length, [some f.enc, some (.int first), some (.ref k), some (.int ((row.length - left.length : Nat) : Int)), some (.ref a), some (.ref b), some (.int by_), some (.ref r), some (encO (some who))], ?_, ?_⟩
        · have hm := lit_play (e := ((row.length - left.length : Nat) : Int)) (who := some who) (tail := by_) (p := s4.length + 1) (srv := none)
          simp only [pKV, encO] at hm
          simp [encO, hpt, toPairs, keyOf, hm, List.getElem?_append_right, pDict, pKV, hend]
        · refine ⟨_, s4.length, s4.length + 1, by_, rfl, hG4.app _, hG4.len, ?_, ?_, ?_⟩
          · rw [r1]
            rw [end_get rfl]
            simp [winnerS, serverS]
          · rw [r1]
            rw [List.getElem?_append_right (by omega)]
            simp [pairsS, encPr]
          · intro w' t' l' e
            rw [r1] at e
            cases e
            rfl
      | none =>
        right
        have hbh : behindS f first m i (begun (f.innerAt m i) by_) w tail = .co f first (laterOf m i w).1 (laterOf m i w).2 (begun (f.innerAt (laterOf m i w).1 (laterOf m i w).2) (servesF f.turn first (ones ++ [(w, tail)]))) := by
          unfold behindS
          rw [hdc, servesF_app, hon, later_sum]
        rw [hbh, ← hdrop] at r1
        refine ⟨s4, w, tail, row.length - left.length, some (.int by_), some (.ref r), some .none, ?_, hG4, hA4, hB5, ?_, ?_, hw, ht, serOk_next h0 h1 hs hdc, ?_⟩
        · simp [encO]
        · omega
        · omega
        · rw [r1, hdrop]
end

section
variable {T : Tab} {gl : Str → Option Val} {W : Nat}
theorem lp_loop (P : Pg T gl) {n D : Nat} (hn : 1 ≤ n) {row : List Int} {k : Nat} (ih : LIn T gl W n D row k) (hr : sides row) (hrl : row.length ≤ 500) {f : Form} (hf : f ≠ .point) (ok : f.ok) (hd : f.deep ≤ D + 1) (h4 : D ≤ 3) {first : Int} (h01 : first = 0 ∨ first = 1)
    {st : Store} {a b : Nat} (ha : st.length ≤ a) (hb2 : st.length ≤ b) (hab : a ≠ b) (hk : st[k]? = some (.lst (row.map Val.int))) :
    ∀ (N fuel : Nat) (m i : Int) (ones : List (Int × Int)) (at_ : Nat) (s : Store) (v6 v7 v8 : Option Val), row.length - at_ ≤ N → N + 1 ≤ fuel → 0 ≤ m → 0 ≤ i → serOk f m i → (servesF f.turn first ones = 0 ∨ servesF f.turn first ones = 1) → (ones.length : Int) = m + i → ones.length + (row.length - at_) ≤ 500 → at_ ≤ row.length → Grow st s → s[a]? = some (.lst [.int m, .int i]) → s[b]? = some (.lst (ones.map encPr)) →
    ∃ s' v env, whileLoop (runT ⟨callN T gl W n, gl, W⟩ (.bool_ true)) (runS ⟨callN T gl W n, gl, W⟩ lpB) fuel [some f.enc, some (.int first), some (.ref k), some (.int at_), some (.ref a), some (.ref b), v6, v7, v8] s = .ok (.ret v, env) s' ∧ PlayRes st row (runTo (.co f first m i (begun (f.innerAt m i) (servesF f.turn first ones))) (row.drop at_)) (.ok v s') := by
  intro N
  induction N with
  | zero =>
    intro fuel m i ones at_ s v6 v7 v8 hN hfu h0 h1 hs hb hon hlen hat hG hA hB
    rcases lp_body P hn ih hr hf ok hd h4 h01 h0 h1 hs hb hon (by omega) hat hG ha hb2 hab hk hA hB v6 v7 v8 with ⟨s', v, env, e, q⟩ | ⟨s', w, t, at2, u6, u7, u8, e, q1, q2, q3, q4, q5, _⟩
    · exact ⟨s', v, env, while_ret (by omega) rfl e, q⟩
    · omega
  | succ N ihN =>
    intro fuel m i ones at_ s v6 v7 v8 hN hfu h0 h1 hs hb hon hlen hat hG hA hB
    rcases lp_body P hn ih hr hf ok hd h4 h01 h0 h1 hs hb hon (by omega) hat hG ha hb2 hab hk hA hB v6 v7 v8 with ⟨s', v, env, e, q⟩ | ⟨s', w, t, at2, u6, u7, u8, e, q1, q2, q3, q4, q5, q6, q7, q8, q9⟩
    · exact ⟨s', v, env, while_ret (by omega) rfl e, q⟩
    · have hnn := later_nonneg (w := w) h0 h1
      have hsum := later_sum m i w
      obtain ⟨s2, v, env, e2, r2⟩ := ihN (fuel - 1) (laterOf m i w).1 (laterOf m i w).2 (ones ++ [(w, t)]) at2 s' u6 u7 u8 (by omega) (by omega) hnn.1 hnn.2 q8 (by rw [servesF_app]; exact servedBy_01 h01 q6 q7) (by simp; omega) (by simp; omega) q5 q1 q2 q3
      refine ⟨s2, v, env, ?_, ?_⟩
      · exact (while_go (b := runS ⟨callN T gl W n, gl, W⟩ lpB) (by omega) rfl e).trans e2
      · rw [q9]; exact r2
def lpC : CS := (.seq (.set 4 (.lst (.cons (.int_ 0) (.cons (.int_ 0) .nil)))) (.seq (.set 5 (.lst .nil)) (.seq (.while_ (.bool_ true) lpB) .skip)))
theorem PlayRes.gc {st s' : Store} {row : List Int} {q : State × List Int} {v : Val} (h : PlayRes st row q (.ok v s')) : PlayRes st row q (Ev.gc st v s') := by
  obtain ⟨s2, r, p, tail, e, g, hr, hd, hp, ht⟩ := h
  cases e
  exact ⟨s', r, p, tail, gc_dict hr hd, g, hr, hd, hp, ht⟩
theorem e_lplay (P : Pg T gl) : ∀ (D n : Nat) (row : List Int) (k : Nat), D ≤ 4 → D + 2 ≤ n → sides row → row.length ≤ 500 → row.length + 1 ≤ W → LIn T gl W n D row k := by
  intro D
  induction D with
  | zero =>
    intro n row k _ _ _ _ _ g first st at_ hd
    have := deep_pos g
    omega
  | succ D ih =>
    intro n row k hD hn hr hrl hW f first st at_ hd ok h01 hk hat
    rw [call_eq P._law_play (by omega)]
    by_cases hf : f = .point
    · subst hf
      have hlen := l_ref (listAt_lst hk)
      rw [List.length_map] at hlen
      by_cases c : at_ = row.length
      · subst c
        have e : runTo (begun .point first) (row.drop row.length) = (.pt first, []) := by rw [List.drop_length]; rfl
        rw [e]
        have hm := lit_play (e := (row.length : Int)) (who := none) (tail := first) (p := st.length + 1) (srv := some first)
        simp only [pKV, encO] at hm
        have hd2 : (st ++ [pDict (row.length : Int) none first (st.length + 1) (some first), Cell.lst []])[st.length]? = some (pDict (row.length : Int) none first (st.length + 1) (some first)) := end_get rfl _
        refine ⟨st ++ [pDict (row.length : Int) none first (st.length + 1) (some first), Cell.lst []], st.length, st.length + 1, first, ?_, (Grow.refl st).app _, Nat.le_refl _, ?_, ?_, ?_⟩
        · refine body_ret (env1 := [some (Form.point).enc, some (.int first), some (.ref k), some (.int row.length), none, none, none, none, none]) (v := .ref st.length) (s1 := st ++ [pDict (row.length : Int) none first (st.length + 1) (some first), Cell.lst []]) rfl ?_ (gc_dict (Nat.le_refl _) hd2)
          simp [c__law_play, Form.enc, hlen, toPairs, keyOf, hm, List.getElem?_append_right, pDict, pKV, encO]
        · simpa [winnerS, serverS] using hd2
        · rw [List.getElem?_append_right (by omega)]
          simp [pairsS]
        · intro w t l e; cases e
      · have hlt : at_ < row.length := by omega
        have e : runTo (begun .point first) (row.drop at_) = (.over row[at_] first none, row.drop (at_ + 1)) := by
          rw [List.drop_eq_getElem_cons hlt]
          show runTo (.over row[at_] first none) (row.drop (at_ + 1)) = _
          exact run_over rfl _
        rw [e]
        have hm := lit_play (e := (at_ : Int) + 1) (who := some row[at_]) (tail := first) (p := st.length + 1) (srv := none)
        simp only [pKV, encO] at hm
        have hcn : ((at_ : Int) = (row.length : Int)) = False := eq_false (by omega)
        have hix := fun g : Store => ix_lst (k := (at_ : Int)) (listAt_lst (app_get (g := g) hk))
        have hat2 : L2.atI (row.map Val.int) (at_ : Int) = some (.int row[at_]) := at_nat (by simp [hlt])
        rw [hat2] at hix
        simp only at hix
        have hd2 : (st ++ [pDict ((at_ : Int) + 1) (some row[at_]) first (st.length + 1) none, Cell.lst []])[st.length]? = some (pDict ((at_ : Int) + 1) (some row[at_]) first (st.length + 1) none) := end_get rfl _
        refine ⟨st ++ [pDict ((at_ : Int) + 1) (some row[at_]) first (st.length + 1) none, Cell.lst []], st.length, st.length + 1, first, ?_, (Grow.refl st).app _, Nat.le_refl _, ?_, ?_, ?_⟩
        · refine body_ret (env1 := [some (Form.point).enc, some (.int first), some (.ref k), some (.int at_), none, none, none, none, none]) (v := .ref st.length) (s1 := st ++ [pDict ((at_ : Int) + 1) (some row[at_]) first (st.length + 1) none, Cell.lst []]) rfl ?_ (gc_dict (Nat.le_refl _) hd2)
          simp [c__law_play, Form.enc, hlen, hcn, hix, toPairs, keyOf, hm, List.getElem?_append_right, pDict, pKV, encO]
        · have e3 : ((row.length : Int) - ((row.drop (at_ + 1)).length : Nat)) = (at_ : Int) + 1 := by rw [List.length_drop]; omega
          simp only [winnerS, serverS]
          rw [e3]
          exact hd2
        · rw [List.getElem?_append_right (by omega)]
          simp [pairsS]
        · intro w t l e; cases e; rfl
    · have hin := ih (n - 1) row k (by omega) (by omega) hr hrl hW
      have hA : (st ++ [Cell.lst [.int 0, .int 0], Cell.lst []])[st.length]? = some (.lst [.int 0, .int 0]) := end_get rfl _
      have hB : (st ++ [Cell.lst [.int 0, .int 0], Cell.lst []])[st.length + 1]? = some (.lst (([] : List (Int × Int)).map encPr)) := by
        rw [List.getElem?_append_right (by omega)]
        simp
      obtain ⟨s', v, env, e, q⟩ := lp_loop P (n := n - 1) (by omega) hin hr hrl hf ok hd (by omega) h01 (st := st) (a := st.length) (b := st.length + 1) (Nat.le_refl _) (by omega) (by omega) hk (row.length - at_) W 0 0 [] at_ _ none none none (Nat.le_refl _) (by omega) (Int.le_refl 0) (Int.le_refl 0) serOk_0 h01 rfl (by simp; omega) hat ((Grow.refl st).app _) hA hB
      have hb : begun f first = .co f first 0 0 (begun (f.innerAt 0 0) (servesF f.turn first [])) := begun_eq hf ok first
      rw [← hb] at q
      have b1 : evalS ⟨callN T gl W (n - 1), gl, W⟩ (.if_ (.cmp .eq (.ix (.var 0) (.int_ 0)) (.str_ s_point)) (.seq (.if_ (.cmp .eq (.var 3) (.bi .len (.cons (.var 2) .nil))) (.seq (.ret (.dict (.kv (.str_ s_end) (.var 3) (.kv (.str_ s_who) .none_ (.kv (.str_ s_tail) (.var 1) (.kv (.str_ s_pairs) (.lst .nil) (.kv (.str_ s_server) (.var 1) .nil))))))) .skip) .skip) (.seq (.ret (.dict (.kv (.str_ s_end) (.bin .add (.var 3) (.int_ 1)) (.kv (.str_ s_who) (.ix (.var 2) (.var 3)) (.kv (.str_ s_tail) (.var 1) (.kv (.str_ s_pairs) (.lst .nil) (.kv (.str_ s_server) .none_ .nil))))))) .skip)) .skip) [some f.enc, some (.int first), some (.ref k), some (.int at_), none, none, none, none, none] st = .ok (.next, [some f.enc, some (.int first), some (.ref k), some (.int at_), none, none, none, none, none]) st := by
        cases f with
        | point => exact absurd rfl hf
        | race _ _ _ _ => simp [Form.enc]
        | tied _ _ _ _ _ _ => simp [Form.enc]
        | series _ _ => simp [Form.enc]
      have b2 : evalS ⟨callN T gl W (n - 1), gl, W⟩ lpC [some f.enc, some (.int first), some (.ref k), some (.int at_), none, none, none, none, none] st = .ok (.ret v, env) s' := by
        have c1 : evalS ⟨callN T gl W (n - 1), gl, W⟩ (.set 4 (.lst (.cons (.int_ 0) (.cons (.int_ 0) .nil)))) [some f.enc, some (.int first), some (.ref k), some (.int at_), none, none, none, none, none] st = .ok (.next, [some f.enc, some (.int first), some (.ref k), some (.int at_), some (.ref st.length), none, none, none, none]) (st ++ [Cell.lst [.int 0, .int 0]]) := by simp
        have c2 : evalS ⟨callN T gl W (n - 1), gl, W⟩ (.set 5 (.lst .nil)) [some f.enc, some (.int first), some (.ref k), some (.int at_), some (.ref st.length), none, none, none, none] (st ++ [Cell.lst [.int 0, .int 0]]) = .ok (.next, [some f.enc, some (.int first), some (.ref k), some (.int at_), some (.ref st.length), some (.ref (st.length + 1)), none, none, none]) (st ++ [Cell.lst [.int 0, .int 0], Cell.lst []]) := by simp
        unfold lpC
        rw [seq_next c1, seq_next c2]
        exact seq_ret e
      have hgo : ∀ bb, fin bb (runBody ⟨callN T gl W (n - 1), gl, W⟩ c__law_play [f.enc, .int first, .ref k, .int at_] st) = Ev.gc st v s' := fun bb => body_ret (env1 := env) rfl ((seq_next b1).trans b2) rfl
      rw [hgo]
      exact q.gc
end

/-! ### how many contests are over -/
/-- how many contests, but points, are over behind a row -/
def tally : State → List Int → Int
  | _, [] => 0
  | S, w :: r => if S.isOver = true then 0 else (pushed S w).2 + tally (pushed S w).1 r
/-- alike but for who serves -/
def Sim : State → State → Prop
  | .pt _, .pt _ => True
  | .co f _ m i I, .co f' _ m' i' I' => f = f' ∧ m = m' ∧ i = i' ∧ Sim I I'
  | .over w _ l, .over w' _ l' => w = w' ∧ l = l'
  | _, _ => False
theorem sim_begun : ∀ (r : Nat) (f : Form) (s s' : Int), f.deep ≤ r → f.ok → Sim (begun f s) (begun f s') := by
  intro r
  induction r with
  | zero => intro f s s' h; have := deep_pos f; omega
  | succ r ih =>
    intro f s s' hd ok
    by_cases hf : f = .point
    · subst hf; trivial
    · rw [begun_eq hf ok, begun_eq hf ok]
      have q := inner_deep hf (series_room ok (Int.le_refl 0) (Int.le_refl 0) serOk_0)
      exact ⟨rfl, rfl, rfl, ih _ _ _ (by omega) (q.2 ok)⟩
theorem sim_over {S S' : State} (h : Sim S S') : S.isOver = S'.isOver := by
  cases S <;> cases S' <;> first | rfl | exact h.elim
theorem sim_behind {f : Form} (hf : f ≠ .point) (ok : f.ok) {s s' m i w t t' : Int} (h0 : 0 ≤ m) (h1 : 0 ≤ i) (hs : serOk f m i) {I I' : State} : Sim (behindS f s m i I w t) (behindS f s' m i I' w t') := by
  unfold behindS
  cases hd : f.decided m i w with
  | some who => exact ⟨rfl, rfl⟩
  | none =>
    have hn := later_nonneg (w := w) h0 h1
    have q := inner_deep hf (series_room ok hn.1 hn.2 (serOk_next h0 h1 hs hd))
    exact ⟨rfl, rfl, rfl, sim_begun f.deep _ _ _ (by omega) (q.2 ok)⟩
theorem sim_push : ∀ {S S' : State} {w : Int}, S.good → Sim S S' → Sim (pushed S w).1 (pushed S' w).1 ∧ (pushed S w).2 = (pushed S' w).2
  | .pt s, S', w, _, h => by
    cases S' with
    | pt s' => exact ⟨⟨rfl, rfl⟩, rfl⟩
    | _ => exact h.elim
  | .over a b c, S', w, _, h => by
    cases S' with
    | over a' b' c' => exact ⟨h, rfl⟩
    | _ => exact h.elim
  | .co f s m i I, S', w, hg, h => by
    cases S' with
    | pt _ => exact h.elim
    | over _ _ _ => exact h.elim
    | co f' s' m' i' I' =>
      obtain ⟨rfl, rfl, rfl, hI⟩ := h
      obtain ⟨hf, ok, hd, hs1, h0, h1, hs, hfm, ho, hg⟩ := hg
      obtain ⟨q1, q2⟩ := sim_push (w := w) hg hI
      show Sim (liftedS f s m i I (pushed I w)).1 (liftedS f s' m i I' (pushed I' w)).1 ∧ (liftedS f s m i I (pushed I w)).2 = (liftedS f s' m i I' (pushed I' w)).2
      unfold liftedS
      cases e1 : (pushed I w).1 with
      | pt a =>
        cases e2 : (pushed I' w).1 with
        | pt b => rw [e1, e2] at q1; exact ⟨⟨rfl, rfl, rfl, q1⟩, q2⟩
        | _ => rw [e1, e2] at q1; exact q1.elim
      | co f1 s1 m1 i1 J =>
        cases e2 : (pushed I' w).1 with
        | co f2 s2 m2 i2 J2 => rw [e1, e2] at q1; exact ⟨⟨rfl, rfl, rfl, q1⟩, q2⟩
        | _ => rw [e1, e2] at q1; exact q1.elim
      | over w1 t1 l1 =>
        cases e2 : (pushed I' w).1 with
        | over w2 t2 l2 =>
          rw [e1, e2] at q1
          obtain ⟨rfl, rfl⟩ := q1
          have sb := sim_behind (s := s) (s' := s') (w := w1) (t := t1) (t' := t2) hf ok h0 h1 hs (I := I) (I' := I')
          refine ⟨sb, ?_⟩
          simp only
          rw [q2, sim_over sb]
        | _ => rw [e1, e2] at q1; exact q1.elim
theorem sim_run : ∀ (row : List Int) {S S' : State}, S.good → sides row → Sim S S' → Sim (runTo S row).1 (runTo S' row).1 ∧ (runTo S row).2 = (runTo S' row).2 ∧ tally S row = tally S' row
  | [], S, S', _, _, h => ⟨h, rfl, rfl⟩
  | w :: r, S, S', hg, hr, h => by
    have ho := sim_over h
    cases e : S.isOver with
    | true =>
      rw [e] at ho
      simp only [runTo, tally, e, ← ho, if_true, and_true]
      exact h
    | false =>
      rw [e] at ho
      obtain ⟨q1, q2⟩ := sim_push (w := w) hg h
      have hg2 := (pushed_good hg e (hr w List.mem_cons_self)).1
      obtain ⟨r1, r2, r3⟩ := sim_run r hg2 (fun x hx => hr x (List.mem_cons_of_mem _ hx)) q1
      simp only [runTo, tally, e, ← ho]
      simp only [Bool.false_eq_true, if_false]
      exact ⟨r1, r2, by rw [q2, r3]⟩
theorem tally_co {f : Form} {s m i : Int} : ∀ (r : List Int) (I : State), I.isOver = false →
    ((runTo I r).1.isOver = false → tally (.co f s m i I) r = tally I r) ∧
    (∀ w t l, (runTo I r).1 = .over w t l → tally (.co f s m i I) r = tally I r + (if (behindS f s m i I w t).isOver = true then 1 else 0) + tally (behindS f s m i I w t) (runTo I r).2)
  | [], I, hI => ⟨fun _ => rfl, fun w t l e => by have e : I = .over w t l := e; rw [e] at hI; cases hI⟩
  | x :: r, I, hI => by
    have e0 : runTo I (x :: r) = runTo (pushed I x).1 r := by simp [runTo, hI]
    have e1 : tally (.co f s m i I) (x :: r) = (liftedS f s m i I (pushed I x)).2 + tally (liftedS f s m i I (pushed I x)).1 r := by
      simp [tally, State.isOver, pushed]
    have e2 : tally I (x :: r) = (pushed I x).2 + tally (pushed I x).1 r := by simp [tally, hI]
    rw [e0, e1, e2]
    cases ho : (pushed I x).1.isOver with
    | false =>
      have e3 : liftedS f s m i I (pushed I x) = (.co f s m i (pushed I x).1, (pushed I x).2) := by
        unfold liftedS
        cases e : (pushed I x).1 with
        | over _ _ _ => rw [e] at ho; cases ho
        | _ => rfl
      rw [e3]
      obtain ⟨a, b⟩ := tally_co (f := f) (s := s) (m := m) (i := i) r (pushed I x).1 ho
      refine ⟨fun z => by rw [a z], fun w t l e => ?_⟩
      rw [b w t l e, behind_first (first_push ho)]
      omega
    | true =>
      rw [run_over ho]
      refine ⟨fun z => absurd (ho.symm.trans z) (by decide), fun w t l e => ?_⟩
      have e : (pushed I x).1 = .over w t l := e
      have e3 : liftedS f s m i I (pushed I x) = (behindS f s m i I w t, (pushed I x).2 + (if (behindS f s m i I w t).isOver then 1 else 0)) := by
        unfold liftedS; rw [e]
      have e4 : tally (pushed I x).1 r = 0 := by
        cases r with
        | nil => rfl
        | cons y r => simp [tally, ho]
      rw [e3, e4]
      simp only
      omega
theorem run_prefix : ∀ (pre left : List Int) (S : State), (runTo S (pre ++ left)).1.isOver = true → (runTo S (pre ++ left)).2 = left → runTo S pre = ((runTo S (pre ++ left)).1, [])
  | [], left, S, ho, h2 => by
    simp only [List.nil_append] at ho h2 ⊢
    cases left with
    | nil => rfl
    | cons w r =>
      by_cases h : S.isOver = true
      · rw [run_over h (w :: r)]; rfl
      · exfalso
        simp only [runTo, if_neg h] at h2
        obtain ⟨p, e⟩ := run_suffix r (pushed S w).1
        have : r.length = (p ++ (runTo (pushed S w).1 r).2).length := by rw [← e]
        rw [h2] at this
        simp at this
        omega
  | w :: p, left, S, ho, h2 => by
    by_cases h : S.isOver = true
    · exfalso
      rw [run_over h] at h2
      have : (w :: p ++ left).length = left.length := congrArg List.length h2
      simp at this
      omega
    · simp only [List.cons_append, runTo, if_neg h] at ho h2 ⊢
      exact run_prefix p left _ ho h2
theorem mergeS_pt (n : Nat) : ∀ (st st' g : Store), st.length = st'.length → (∀ (i : Nat) (c : Cell), st'[i]? = some c → st[i]? = some c ∨ c.lowC n = true) → mergeS n st (st' ++ g) = some st'
  | [], [], g, _, _ => by simp [mergeS]
  | [], _ :: _, g, h, _ => by simp at h
  | _ :: _, [], g, h, _ => by simp at h
  | c :: cs, d :: ds, g, h, hh => by
    have h1 := hh 0 d rfl
    have ih := mergeS_pt n cs ds g (by simpa using h) fun i c e => hh (i + 1) c e
    have hc : c = d ∨ d.lowC n = true := by
      rcases h1 with z | z
      · left; cases z; rfl
      · exact .inr z
    simp only [List.cons_append, mergeS, if_pos hc, ih, Option.map_some]
theorem gc_setA {st g : Store} {c : Nat} {xs : List Val} {v : Val} (hx : lowL st.length xs = true) (hv : v.lowB st.length = true) : gc st v (st.set c (.lst xs) ++ g) = .ok v (st.set c (.lst xs)) := by
  unfold gc
  rw [mergeS_pt st.length st (st.set c (.lst xs)) g (by simp) ?_]
  · simp only [hv]
    rfl
  · intro i d e
    by_cases h : c = i
    · subst h
      right
      have hl : c < st.length := by have := lt_of_some e; simpa using this
      rw [List.getElem?_set_self hl] at e
      cases e
      exact hx
    · rw [List.getElem?_set_ne h] at e
      exact .inl e
theorem on_left : ∀ (row : List Int) (S : State), goesOn S row → (runTo S row).2 = [] ∧ (runTo S row).1 = plays S row
  | [], S, _ => ⟨rfl, rfl⟩
  | w :: r, S, h => by
    obtain ⟨h1, h2⟩ := h
    simp only [runTo, h1, Bool.false_eq_true, if_false]
    exact on_left r _ h2

/-! ### the law's own rows -/
theorem gc_base_new {ns : List Int} {d e r : Nat} {rest g : Store} {xs : List Val} (hr : rest.length + 2 ≤ r) (h : (base ns e (rest ++ g))[r]? = some (.lst xs)) (hx : lowL (rest.length + 2) xs = true) : gc (base ns d rest) (.ref r) (base ns e (rest ++ g)) = .ok (.ref (rest.length + 2)) (base ns e (rest ++ [.lst xs])) := by
  unfold gc
  rw [merge_base]
  have h1 : (Val.ref r).lowB (base ns d rest).length = false := by simp; omega
  simp only [h1, h, base_length]
  simp [hr, hx]
  omega
theorem on_sim : ∀ (row : List Int) {S S' : State}, S.good → sides row → Sim S S' → goesOn S row → goesOn S' row
  | [], _, _, _, _, _, _ => trivial
  | w :: r, S, S', hg, hr, h, ho => by
    have hg2 := (pushed_good hg ho.1 (hr w List.mem_cons_self)).1
    exact ⟨by rw [← sim_over h]; exact ho.1, on_sim r hg2 (fun x hx => hr x (List.mem_cons_of_mem _ hx)) (sim_push hg h).1 ho.2⟩
theorem on_cut : ∀ (row : List Int) (S : State), goesOn S (row.take (row.length - (runTo S row).2.length))
  | [], S => trivial
  | w :: r, S => by
    by_cases h : S.isOver = true
    · simp only [runTo, if_pos h, Nat.sub_self, List.take_zero]; trivial
    · simp only [runTo, if_neg h]
      obtain ⟨p, e⟩ := run_suffix r (pushed S w).1
      have : (runTo (pushed S w).1 r).2.length ≤ r.length := by
        conv => rhs; rw [e]
        simp
      have e2 : (w :: r).length - (runTo (pushed S w).1 r).2.length = (r.length - (runTo (pushed S w).1 r).2.length) + 1 := by simp; omega
      rw [e2, List.take_succ_cons]
      exact ⟨by simpa using h, on_cut r _⟩
def lr1 : CS := (.set 4 (.call f__law_pick (.cons (.var 0) (.cons (.var 1) (.cons (.lst (.cons (.lst (.cons (.int_ 0) (.cons (.int_ 1) .nil))) (.cons (.lst (.cons (.int_ 0) (.cons (.int_ 1) .nil))) (.cons (.lst (.cons (.int_ 0) (.cons (.int_ 0) (.cons (.int_ 0) (.cons (.int_ 1) .nil))))) (.cons (.lst (.cons (.int_ 1) (.cons (.int_ 1) (.cons (.int_ 1) (.cons (.int_ 0) .nil))))) .nil))))) .nil)))))
def lr2e : CE := (.comp .range 6 (.cons (.call f__law_draw (.cons (.var 0) (.cons (.var 1) (.cons (.bin .add (.var 3) (.int_ 1)) .nil)))) .nil) .nil (.call f__law_pick (.cons (.var 0) (.cons (.var 1) (.cons (.var 4) .nil)))))
def lr2 : CS := (.set 5 lr2e)
def lr3 : CS := (.ret (.slice (.var 5) .nil (.ix (.call f__law_play (.cons (.var 2) (.cons (.int_ 0) (.cons (.var 5) (.cons (.int_ 0) .nil))))) (.str_ s_end))))
theorem lr_body : c__law_row.body = .seq lr1 (.seq lr2 (.seq lr3 .skip)) := rfl
section
variable {T : Tab} {gl : Str → Option Val} {W : Nat}
theorem e_lrow (P : Pg T gl) (ns : List Int) {n d top : Nat} (hn : 12 ≤ n) (hd : d ≤ 50000) (ht : top ≤ 400) (hW : 501 ≤ W) {f : Form} (hf : FormOk f) (rest : Store) :
    ∃ (row : List Int) (d' : Nat), callN T gl W n f__law_row [.ref 0, .ref 1, f.enc, .int (top : Int)] (base ns d rest) = .ok (.ref (rest.length + 2)) (base ns d' (rest ++ [.lst (row.map Val.int)])) ∧ sides row ∧ row.length ≤ top ∧ goesOn (begun f 0) row ∧ d' ≤ d + top + 2 := by
  rw [call_eq P._law_row (by omega)]
  generalize hrs : rest ++ [Cell.lst [.int 0, .int 1], .lst [.int 0, .int 1], .lst [.int 0, .int 0, .int 0, .int 1], .lst [.int 1, .int 1, .int 1, .int 0], .lst [.ref (rest.length + 2), .ref (rest.length + 3), .ref (rest.length + 4), .ref (rest.length + 5)]] = R
  have hRl : R.length = rest.length + 5 := by rw [← hrs]; simp
  have e1 := e_pick (W := W) P (n := n - 1) (by omega) ns (d := d) (by omega) R (k := rest.length + 4) (xs := [.ref (rest.length + 2), .ref (rest.length + 3), .ref (rest.length + 4), .ref (rest.length + 5)]) (by rw [← hrs]; rw [List.getElem?_append_right (by omega)]; simp) (by simp) (by simp; omega)
  have hb := draw_lt ns (d + 1) (m := 4) (by decide)
  have hlen4 : (([Val.ref (rest.length + 2), .ref (rest.length + 3), .ref (rest.length + 4), .ref (rest.length + 5)].length : Nat) : Int) = 4 := rfl
  rw [hlen4] at e1
  obtain ⟨j, hj, hj4⟩ : ∃ j : Nat, drawF ns (d + 1) 4 = j ∧ j < 4 := ⟨(drawF ns (d + 1) 4).toNat, by omega, by omega⟩
  rw [hj, Int.toNat_natCast] at e1
  obtain ⟨some_, hsm, hget, hp⟩ : ∃ some_ : List Int, [Val.ref (rest.length + 2), .ref (rest.length + 3), .ref (rest.length + 4), .ref (rest.length + 5)].getD j .none = .ref (rest.length + j + 2) ∧ R[rest.length + j]? = some (.lst (some_.map Val.int)) ∧ sides some_ ∧ 0 < some_.length := by
    have h2 : ∀ i (c : Cell), [Cell.lst [.int 0, .int 1], .lst [.int 0, .int 1], .lst [.int 0, .int 0, .int 0, .int 1], .lst [.int 1, .int 1, .int 1, .int 0], .lst [.ref (rest.length + 2), .ref (rest.length + 3), .ref (rest.length + 4), .ref (rest.length + 5)]][i]? = some c → R[rest.length + i]? = some c := by
      intro i c h
      rw [← hrs, List.getElem?_append_right (by omega)]
      rw [Nat.add_sub_cancel_left]
      exact h
    have : j = 0 ∨ j = 1 ∨ j = 2 ∨ j = 3 := by omega
    rcases this with rfl | rfl | rfl | rfl
    · exact ⟨[0, 1], rfl, h2 0 _ rfl, by simp [sides], by simp⟩
    · exact ⟨[0, 1], by simp, h2 1 _ rfl, by simp [sides], by simp⟩
    · exact ⟨[0, 0, 0, 1], by simp, h2 2 _ rfl, by simp [sides], by simp⟩
    · exact ⟨[1, 1, 1, 0], by simp, h2 3 _ rfl, by simp [sides], by simp⟩
  rw [hsm] at e1
  have s1 : evalS ⟨callN T gl W (n - 1), gl, W⟩ lr1 [some (.ref 0), some (.ref 1), some f.enc, some (.int top), none, none, none] (base ns d rest) = .ok (.next, [some (.ref 0), some (.ref 1), some f.enc, some (.int top), some (.ref (rest.length + j + 2)), none, none]) (base ns (d + 1) R) := by
    simp [lr1, hrs, e1]
  -- the points
  have e2 := e_draw (W := W) P (n := n - 1) (by omega) ns (d := d + 1) (by omega) R (m := (top : Int) + 1) (by omega)
  have hb2 := draw_lt ns (d + 1 + 1) (m := (top : Int) + 1) (by omega)
  obtain ⟨m, hm⟩ : ∃ m : Nat, drawF ns (d + 1 + 1) ((top : Int) + 1) = m := ⟨(drawF ns (d + 1 + 1) ((top : Int) + 1)).toNat, by omega⟩
  rw [hm] at e2 hb2
  have h1 : evalE ⟨callN T gl W (n - 1), gl, W⟩ (.cons (.call f__law_draw (.cons (.var 0) (.cons (.var 1) (.cons (.bin .add (.var 3) (.int_ 1)) .nil)))) .nil) [some (.ref 0), some (.ref 1), some f.enc, some (.int top), some (.ref (rest.length + j + 2)), none, none] (base ns (d + 1) R) = .ok (.tup [.int (m : Int)]) (base ns (d + 1 + 1) R) := by
    simp [e2]
  have e3 := e_comp_draw (T := T) (gl := gl) (W := W) (n := n - 1) ns (d := d + 1) (d1 := d + 1 + 1) (rest := R) (env := [some (.ref 0), some (.ref 1), some f.enc, some (.int top), some (.ref (rest.length + j + 2)), none, none]) (elt := .call f__law_pick (.cons (.var 0) (.cons (.var 1) (.cons (.var 4) .nil)))) (i := 6) (m := m) (g := fun d => Val.int (some_.getD (drawF ns (d + 1) some_.length).toNat 0)) h1 (by omega) (by omega) (by
    intro x d acc hd
    have q := e_pick (W := W) P (n := n - 1) (by omega) ns (d := d) hd (R ++ [.lst acc]) (k := rest.length + j) (xs := some_.map Val.int) (app_get hget) (by simpa using hp.2) (low_ints _)
    rw [List.length_map] at q
    have hbb := draw_lt ns (d + 1) (m := some_.length) (by omega)
    have e4 : (some_.map Val.int).getD (drawF ns (d + 1) some_.length).toNat .none = Val.int (some_.getD (drawF ns (d + 1) some_.length).toNat 0) := by
      have : (drawF ns (d + 1) some_.length).toNat < some_.length := by omega
      simp [this]
    rw [e4] at q
    simp [q])
  generalize hrow : (List.range' (d + 1 + 1) m).map (fun d => some_.getD (drawF ns (d + 1) some_.length).toNat 0) = row0
  have hrow2 : (List.range' (d + 1 + 1) m).map (fun d => Val.int (some_.getD (drawF ns (d + 1) some_.length).toNat 0)) = row0.map Val.int := by
    rw [← hrow, List.map_map]; rfl
  rw [hrow2] at e3
  have hl0 : row0.length = m := by rw [← hrow]; simp
  have hs0 : sides row0 := by
    intro x hx
    rw [← hrow] at hx
    obtain ⟨y, _, rfl⟩ := List.mem_map.mp hx
    have hbb := draw_lt ns (y + 1) (m := some_.length) (by omega)
    have : (drawF ns (y + 1) some_.length).toNat < some_.length := by omega
    exact hp.1 _ (by simp [this])
  have s2 : evalS ⟨callN T gl W (n - 1), gl, W⟩ lr2 [some (.ref 0), some (.ref 1), some f.enc, some (.int top), some (.ref (rest.length + j + 2)), none, none] (base ns (d + 1) R) = .ok (.next, [some (.ref 0), some (.ref 1), some f.enc, some (.int top), some (.ref (rest.length + j + 2)), some (.ref (R.length + 2)), none]) (base ns (d + 1 + 1 + m) (R ++ [.lst (row0.map Val.int)])) := by
    unfold lr2
    rw [es_set]
    unfold lr2e
    rw [e3]
    rfl
  -- cut at the end
  have hkr : (base ns (d + 1 + 1 + m) (R ++ [.lst (row0.map Val.int)]))[R.length + 2]? = some (.lst (row0.map Val.int)) := by
    rw [base_get]; exact end_get rfl []
  obtain ⟨s', r, p, tail, e5, g5, hr5, hd5, hp5, _⟩ := e_lplay (W := W) P 4 (n - 1) row0 (R.length + 2) (by omega) (by omega) hs0 (by omega) (by omega) f 0 (base ns (d + 1 + 1 + m) (R ++ [.lst (row0.map Val.int)])) 0 hf.2.1 hf.1 (.inl rfl) hkr (Nat.zero_le _)
  rw [List.drop_zero] at hd5
  generalize hleft : (runTo (begun f 0) row0).2 = left at hd5
  have hsuf := run_suffix row0 (begun f 0)
  have hll : left.length ≤ row0.length := by
    obtain ⟨pre, e⟩ := hsuf
    rw [hleft] at e
    rw [e]
    simp
  have hend : ((row0.length : Int) - left.length) = ((row0.length - left.length : Nat) : Int) := by omega
  rw [hend] at hd5
  have hcut := on_cut row0 (begun f 0)
  rw [hleft] at hcut
  have hxe := ix_end hd5
  have hkr2 := g5.get hkr
  have hsl : sliceop (.ref (R.length + 2)) none (some ((row0.length - left.length : Nat) : Int)) s' = .ok (.ref s'.length) (s' ++ [.lst ((row0.take (row0.length - left.length)).map Val.int)]) := by
    rw [sl_list (listAt_lst hkr2), cut_take, List.map_take]
  have s3 : evalS ⟨callN T gl W (n - 1), gl, W⟩ lr3 [some (.ref 0), some (.ref 1), some f.enc, some (.int top), some (.ref (rest.length + j + 2)), some (.ref (R.length + 2)), none] (base ns (d + 1 + 1 + m) (R ++ [.lst (row0.map Val.int)])) = .ok (.ret (.ref s'.length), [some (.ref 0), some (.ref 1), some f.enc, some (.int top), some (.ref (rest.length + j + 2)), some (.ref (R.length + 2)), none]) (s' ++ [.lst ((row0.take (row0.length - left.length)).map Val.int)]) := by
    have e5' : callN T gl W (n - 1) f__law_play [f.enc, .int 0, .ref (R.length + 2), .int 0] (base ns (d + 1 + 1 + m) (R ++ [.lst (row0.map Val.int)])) = .ok (.ref r) s' := e5
    unfold lr3
    simp only [es_ret, ev_slice, ev_var, ev_ix, ev_call, ev_cons, ev_int, ev_nil, ev_str, isNil, List.getElem?_cons_succ, List.getElem?_cons_zero, bind_ok, bindX_ok, callX_ok, if_true, if_false, Bool.false_eq_true]
    rw [e5', bind_ok, hxe, bind_ok, part_int, bind_ok, hsl, bindX_ok]
  obtain ⟨g, hg⟩ := g5
  have hst : s' = base ns (d + 1 + 1 + m) (rest ++ ([Cell.lst [.int 0, .int 1], .lst [.int 0, .int 1], .lst [.int 0, .int 0, .int 0, .int 1], .lst [.int 1, .int 1, .int 1, .int 0], .lst [.ref (rest.length + 2), .ref (rest.length + 3), .ref (rest.length + 4), .ref (rest.length + 5)]] ++ [.lst (row0.map Val.int)] ++ g)) := by
    rw [hg, ← hrs]
    simp
  refine ⟨row0.take (row0.length - left.length), d + 1 + 1 + m, ?_, fun x hx => hs0 x (List.mem_of_mem_take hx), by rw [List.length_take]; omega, hcut, by omega⟩
  refine body_ret (v := .ref s'.length) (s1 := s' ++ [.lst ((row0.take (row0.length - left.length)).map Val.int)]) (env1 := [some (.ref 0), some (.ref 1), some f.enc, some (.int top), some (.ref (rest.length + j + 2)), some (.ref (R.length + 2)), none]) rfl ?_ ?_
  · rw [lr_body]
    have := (seq_next (r := .seq lr2 (.seq lr3 .skip)) s1).trans ((seq_next (r := .seq lr3 .skip) s2).trans (seq_ret (r := .skip) s3))
    exact this
  · have hlast : (s' ++ [Cell.lst ((row0.take (row0.length - left.length)).map Val.int)])[s'.length]? = some (.lst ((row0.take (row0.length - left.length)).map Val.int)) := end_get rfl []
    have hsl2 : rest.length + 2 ≤ s'.length := by rw [hst]; simp
    generalize s'.length = q at hlast hsl2
    rw [hst, base_app, List.append_assoc] at hlast ⊢
    exact gc_base_new hsl2 hlast (low_ints _)
end

/-! ### points behind the end: Over, with its number -/
section
variable {T : Tab} {gl : Str → Option Val} {W : Nat}
theorem can_of {f : Str} {d : Def} (h : T.lookup f = some d) (hc : canRS d.body = true) : canB T f = true := by
  unfold canB; rw [h]; exact hc
theorem fin_exc {b : Bool} (h : b = true) {c : Str} {v : Val} {s : Store} : fin b (.exc c v s) = .exc c v s := by
  unfold fin; simp only; exact if_pos h
theorem body_exc {F : Fns} {d : Def} {args : List Val} {st s1 : Store} {c : Str} {v : Val} (hl : args.length = d.params) (hb : evalS F d.body (args.map some ++ List.replicate (d.names.length - args.length) none) st = .exc c v s1) : runBody F d args st = .exc c v s1 := by
  unfold runBody
  rw [if_pos hl, hb]
  rfl
theorem call_exc {n : Nat} {f : Str} {d : Def} {args : List Val} {st s1 : Store} {c : Str} {v : Val} (h : T.lookup f = some d) (hc : canRS d.body = true) (hn : 1 ≤ n) (hl : args.length = d.params) (hb : evalS ⟨callN T gl W (n - 1), gl, W⟩ d.body (args.map some ++ List.replicate (d.names.length - args.length) none) st = .exc c v s1) : callN T gl W n f args st = .exc c v s1 := by
  rw [call_eq h hn, body_exc hl hb, fin_exc (can_of h hc)]
theorem seq_exc {F : Fns} {s r : CS} {env : Env} {st st1 : Store} {c : Str} {v : Val} (h : evalS F s env st = .exc c v st1) : evalS F (.seq s r) env st = .exc c v st1 := by
  rw [es_seq, h, bindX_exc]
theorem for_exc {is : List Nat} {ok : Store → Prop} {b : Env → Store → Res (Flow × Env)} {x : Val} {xs : List Val} {env env1 : Env} {st s2 : Store} {c : Str} {v : Val} (h : ok st) (hb : bindTo is x env = some env1) (hr : b env1 st = .exc c v s2) : forLoop is ok b (x :: xs) env st = .exc c v s2 := by
  rw [forLoop, if_pos h, hb]
  simp only [hr, bindX_exc]
theorem over_loop (P : Pg T gl) (hX : W % 2 = 1) {n : Nat} (hn : 14 ≤ n) {row : List Int} {k : Nat} {st : Store} {ok : Store → Prop} (hok : ok st) (hrow : st[k]? = some (.lst (row.map Val.int))) (a b : Option Val) (r0 : Int) (rest : List Int) : ∀ (suf pre : List Int) (S : State) (x : Option Val), row = pre ++ (suf ++ r0 :: rest) → S.good → sides suf → goesOn S suf → (plays S suf).isOver = true →
    forLoop [4] ok (runS ⟨callN T gl W n, gl, W⟩ playB) ((List.range' pre.length (suf.length + (rest.length + 1))).map fun (j : Nat) => Val.int (j : Int)) [a, b, some (.ref k), some S.enc, x] st = .exc "Over" (.int ((pre.length + suf.length : Nat) : Int)) st
  | [], pre, S, x, hr, hg, _, _, ho => by
    have ho : S.isOver = true := ho
    cases S with
    | pt _ => cases ho
    | co _ _ _ _ _ => cases ho
    | over w t l =>
      have hx : (⟨callN T gl W n, gl, W⟩ : Fns).fuel % 2 = 1 := hX
      have body : runS ⟨callN T gl W n, gl, W⟩ playB [a, b, some (.ref k), some (State.over w t l).enc, some (.int pre.length)] st = .exc "Over" (.int pre.length) st := by
        unfold runS playB
        refine seq_exc ?_
        rw [es_if]
        simp [State.enc, es_raise1 hx]
      rw [show ([] : List Int).length + (rest.length + 1) = rest.length + 1 by simp, List.range'_succ, List.map_cons]
      rw [for_exc hok rfl body]
      simp
  | w :: suf, pre, S, x, hr, hg, hw, hgo, ho => by
    have hw1 := hw w List.mem_cons_self
    have hp := pushed_good hg hgo.1 hw1
    have hy := over_loop P hX hn hok hrow a b r0 rest suf (pre ++ [w]) (pushed S w).1 (some (.int pre.length)) (by simp [hr]) hp.1 (fun z hz => hw z (List.mem_cons_of_mem _ hz)) hgo.2 ho
    obtain ⟨f, xs, x1, x2, x3⟩ := state_head hgo.1
    have hd := good_deep hg
    have hl := lev_le hg hgo.1
    have q := eq_over (f := f) (by rw [x3]; omega) st
    have e1 := e_pushed (W := W) P S w n st hg hgo.1 hw1 (by omega)
    rw [x1] at e1
    have e2 : L2.atI (row.map Val.int) (pre.length : Int) = some (.int w) := at_nat (by simp [hr])
    have e3 := ix_lst (k := (pre.length : Int)) (listAt_lst hrow)
    rw [e2] at e3
    have hlen : (w :: suf).length + (rest.length + 1) = (suf.length + (rest.length + 1)) + 1 := by simp; omega
    rw [hlen, List.range'_succ, List.map_cons]
    have body : runS ⟨callN T gl W n, gl, W⟩ playB [a, b, some (.ref k), some S.enc, some (.int pre.length)] st = .ok (.next, [a, b, some (.ref k), some (pushed S w).1.enc, some (.int pre.length)]) st := by
      simp [runS, playB, x1, x2, q, e1, e3]
    rw [for_next hok rfl body]
    have e4 : (pre ++ [w]).length = pre.length + 1 := by simp
    rw [e4] at hy
    rw [hy]
    have e5 : pre.length + 1 + suf.length = pre.length + (w :: suf).length := by simp; omega
    rw [e5]
theorem x_played (P : Pg T gl) (hX : W % 2 = 1) {n : Nat} (hn : 15 ≤ n) {f : Form} (hf : FormOk f) {s : Int} (hs : s = 0 ∨ s = 1) {k : Nat} {row : List Int} {r0 : Int} {rest : List Int} {st : Store} (h : RowOk st k (row ++ r0 :: rest)) (hg : goesOn (begun f s) row) (ho : (plays (begun f s) row).isOver = true) : callN T gl W n f_played [f.enc, .int s, .ref k] st = .exc "Over" (.int row.length) st := by
  refine call_exc P.played rfl (by omega) rfl ?_
  have e1 := e_begun (W := W) P 4 f s (n - 1) st hf.2.1 hf.1 (by omega)
  have gb := good_begun 4 f s (by have := hf.2.1; omega) hf.1 (by have := hf.2.1; omega) hs
  have hsd : sides row := fun x hx => h.2.2 x (List.mem_append_left _ hx)
  have hy := over_loop (W := W) P hX (n := n - 1) (by omega) (ok := stays .range (.tup [.int (row ++ r0 :: rest).length]) ((List.range (row ++ r0 :: rest).length).map fun (j : Nat) => Val.int (j : Int))) trivial h.1 (some f.enc) (some (.int s)) r0 rest row [] (begun f s) none rfl gb hsd hg ho
  have hln : row.length + (rest.length + 1) = (row ++ r0 :: rest).length := by simp
  rw [List.length_nil, hln, ← List.range_eq_range', Nat.zero_add] at hy
  have hr : srcItems .range (.tup [.int (row ++ r0 :: rest).length]) st = some ((List.range (row ++ r0 :: rest).length).map fun (j : Nat) => Val.int (j : Int)) := by
    have := h.2.1
    exact src_range (by omega)
  have hl : evalE ⟨callN T gl W (n - 1), gl, W⟩ (.cons (.bi .len (.cons (.var 2) .nil)) .nil) [some f.enc, some (.int s), some (.ref k), some (begun f s).enc, none] st = .ok (.tup [.int (row ++ r0 :: rest).length]) st := by
    have := l_ref (listAt_lst h.1)
    rw [List.length_map] at this
    simp only [ev_cons, ev_bi, ev_var, ev_nil]
    simp [this]
  have hff := for_of (is := [4]) (a := playB) hl hr
  rw [hy] at hff
  have s1 : evalS ⟨callN T gl W (n - 1), gl, W⟩ (.set 3 (.call f_begun (.cons (.var 0) (.cons (.var 1) .nil)))) [some f.enc, some (.int s), some (.ref k), none, none] st = .ok (.next, [some f.enc, some (.int s), some (.ref k), some (begun f s).enc, none]) st := by
    simp [e1]
  exact (seq_next s1).trans (seq_exc hff)
theorem x_state_of (P : Pg T gl) (hX : W % 2 = 1) {n : Nat} (hn : 20 ≤ n) {f : Form} (hf : FormOk f) {s : Int} (hs : s = 0 ∨ s = 1) {k : Nat} {row : List Int} {r0 : Int} {rest : List Int} {st : Store} (h : RowOk st k (row ++ r0 :: rest)) (hg : goesOn (begun f s) row) (ho : (plays (begun f s) row).isOver = true) : callN T gl W n f_state_of [f.enc, .int s, .ref k] st = .exc "Over" (.int row.length) st := by
  refine call_exc P.state_of rfl (by omega) rfl ?_
  have e1 := e_look_form (W := W) P (n := n - 1) (by omega) f hf.1 hf.2.1 hf.2.2 st
  have e2 := e_look_side (W := W) P (n := n - 1) (by omega) hs st
  have e3 := e_look_row (W := W) P (n := n - 1) (by omega) h
  have e4 := x_played (W := W) P hX (n := n - 1) (by omega) hf hs h hg ho
  have s1 : evalS ⟨callN T gl W (n - 1), gl, W⟩ (.expr (.call f_look_form (.cons (.var 0) .nil))) [some f.enc, some (.int s), some (.ref k)] st = .ok (.next, [some f.enc, some (.int s), some (.ref k)]) st := by simp [e1]
  have s2 : evalS ⟨callN T gl W (n - 1), gl, W⟩ (.expr (.call f_look_side (.cons (.var 1) .nil))) [some f.enc, some (.int s), some (.ref k)] st = .ok (.next, [some f.enc, some (.int s), some (.ref k)]) st := by simp [e2]
  have s3 : evalS ⟨callN T gl W (n - 1), gl, W⟩ (.expr (.call f_look_row (.cons (.var 2) .nil))) [some f.enc, some (.int s), some (.ref k)] st = .ok (.next, [some f.enc, some (.int s), some (.ref k)]) st := by simp [e3]
  have s4 : evalS ⟨callN T gl W (n - 1), gl, W⟩ (.seq (.ret (.call f_played (.cons (.var 0) (.cons (.var 1) (.cons (.var 2) .nil))))) .skip) [some f.enc, some (.int s), some (.ref k)] st = .exc "Over" (.int row.length) st := by
    refine seq_exc ?_
    simp [e4]
  exact (seq_next s1).trans ((seq_next s2).trans ((seq_next s3).trans s4))
/-- an error of the arguments -/
theorem callX_exc {F : Fns} {f : Str} {c : Str} {v : Val} {s : Store} (h : ∃ args st, F.fn f args st ≠ .stuck) : callX F f (.exc c v s) = .exc c v s := by
  unfold callX
  simp only
  exact if_pos h
theorem x_of (P : Pg T gl) (hX : W % 2 = 1) {n : Nat} (hn : 21 ≤ n) {g h : Str} {d : Def} (hl : T.lookup h = some d) (hb : d = ⟨3, ["form", "first", "row"], .seq (.ret (.call g (.cons (.call f_state_of (.cons (.var 0) (.cons (.var 1) (.cons (.var 2) .nil)))) .nil))) .skip⟩) (ha : ∃ args st, callN T gl W (n - 1) g args st ≠ .stuck)
    {f : Form} (hf : FormOk f) {s : Int} (hs : s = 0 ∨ s = 1) {k : Nat} {row : List Int} {r0 : Int} {rest : List Int} {st : Store} (hr : RowOk st k (row ++ r0 :: rest)) (hg : goesOn (begun f s) row) (ho : (plays (begun f s) row).isOver = true) : callN T gl W n h [f.enc, .int s, .ref k] st = .exc "Over" (.int row.length) st := by
  subst hb
  refine call_exc hl rfl (by omega) rfl ?_
  have e1 := x_state_of (W := W) P hX (n := n - 1) (by omega) hf hs hr hg ho
  refine seq_exc ?_
  rw [es_ret, ev_call, ev_cons, ev_call]
  simp only [ev_cons, ev_var, ev_nil, List.map_cons, List.map_nil, List.cons_append, List.nil_append, List.getElem?_cons_zero, List.getElem?_cons_succ, bindX_ok, callX_ok]
  rw [e1]
  simp only [bindX_exc]
  rw [callX_exc ha]
  rfl
theorem x_standing (P : Pg T gl) (hX : W % 2 = 1) {n : Nat} (hn : 25 ≤ n) {f : Form} (hf : FormOk f) {s : Int} (hs : s = 0 ∨ s = 1) {k : Nat} {row : List Int} {r0 : Int} {rest : List Int} {st : Store} (hr : RowOk st k (row ++ r0 :: rest)) (hg : goesOn (begun f s) row) (ho : (plays (begun f s) row).isOver = true) : callN T gl W n f_standing [f.enc, .int s, .ref k] st = .exc "Over" (.int row.length) st :=
  x_of P hX (by omega) P.standing rfl ⟨[(State.pt 0).enc], [], by rw [e_pairs P (.pt 0) (n - 1) [] (.inl rfl) (by simp [State.lev]) (by simp [State.lev]; omega)]; intro z; cases z⟩ hf hs hr hg ho
theorem x_winner (P : Pg T gl) (hX : W % 2 = 1) {n : Nat} (hn : 25 ≤ n) {f : Form} (hf : FormOk f) {s : Int} (hs : s = 0 ∨ s = 1) {k : Nat} {row : List Int} {r0 : Int} {rest : List Int} {st : Store} (hr : RowOk st k (row ++ r0 :: rest)) (hg : goesOn (begun f s) row) (ho : (plays (begun f s) row).isOver = true) : callN T gl W n f_winner [f.enc, .int s, .ref k] st = .exc "Over" (.int row.length) st :=
  x_of P hX (by omega) P.winner rfl ⟨[(State.pt 0).enc], [], by rw [e_winner_of P (n := n - 1) (by omega) (.pt 0) (.inl rfl) []]; intro z; cases z⟩ hf hs hr hg ho
theorem x_server (P : Pg T gl) (hX : W % 2 = 1) {n : Nat} (hn : 25 ≤ n) {f : Form} (hf : FormOk f) {s : Int} (hs : s = 0 ∨ s = 1) {k : Nat} {row : List Int} {r0 : Int} {rest : List Int} {st : Store} (hr : RowOk st k (row ++ r0 :: rest)) (hg : goesOn (begun f s) row) (ho : (plays (begun f s) row).isOver = true) : callN T gl W n f_server [f.enc, .int s, .ref k] st = .exc "Over" (.int row.length) st :=
  x_of P hX (by omega) P.server rfl ⟨[(State.pt 0).enc], [], by rw [e_server_of P (.pt 0) (n - 1) [] (.inl rfl) (by simp [State.lev]; omega)]; intro z; cases z⟩ hf hs hr hg ho
end

/-! ### what a refusal is told as -/
theorem isxv {F : Fns} (hx : F.fuel % 2 = 1) {c c' : Str} {env : Env} {st : Store} {r : Nat} {fs : List (Str × Val)} (h0 : env[0]? = some (some (.ref r))) (hr : st[r]? = some (.inst c' fs)) : evalE F (.isx c (.var 0)) env st = .ok (.bool (excSub c' c)) st := by
  rw [ev_isx hx, ev_var, h0]
  simp [isExc, hr]
theorem addv {F : Fns} {env : Env} {st : Store} {k : Nat} {xs ys : List Val} {A : CE} (h1 : env[1]? = some (some (.ref k))) (hk : st[k]? = some (.lst xs)) (hA : evalE F A env st = .ok (.tup ys) st) (hl : xs.length + ys.length ≤ 100) : evalS F (.set 1 (.bin .add (.var 1) (.lst A))) env st = .ok (.next, env.set 1 (some (.ref (st.length + 1)))) (st ++ [.lst ys, .lst (xs ++ ys)]) := by
  have e1 := b_addL (st := st ++ [.lst ys]) (n := k) (m := st.length) (app_get hk) (end_get rfl []) (small_line (by omega))
  rw [es_set, ev_bin, ev_var, h1]
  simp only [bind_ok, ev_lst, hA]
  rw [need_pos (small_line (by omega))]
  simp only [bind_ok]
  rw [e1, bindX_ok]
  simp
theorem two_get (R : Store) (a b : Cell) : (R ++ [a, b])[R.length + 1]? = some b := by
  rw [List.getElem?_append_right (by omega)]
  simp
theorem m_countB {st : Store} {n : Nat} {xs : List Val} {k : Bool} (h : listAt st n = some xs) (hf : xs.all flatB = true) : metop .count (.ref n) [.bool k] st = .ok (.int ((xs.countP fun x => flatEq x (.bool k)) : Nat)) st := by
  show (match listAt st n with | some xs => if xs.all flatB = true then Res.ok (Val.int ((xs.countP fun x => flatEq x (.bool k)) : Nat)) st else .stuck | none => .stuck) = _
  rw [h]
  exact if_pos hf
def kindNs : List Str := ["BadForm", "BadSide", "BadRow", "NotOver", "BadTree", "NoGift", "NoPoint", "Full", "Stuck", "Nothing", "BadNumber", "BadShare", "BadText", "BadName", "NoName", "NoMatch", "Over"]
def rf1 : CS := (.if_ (.cmp .is_ (.var 0) .none_) (.seq (.ret (.tup (.cons (.str_ s_ok) .nil))) .skip) .skip)
def rf2 : CS := (.if_ (.not_ (.isx "ValueError" (.var 0))) (.seq (.ret (.tup (.cons (.str_ s_wrong) .nil))) .skip) .skip)
def rf3 : CS := (.set 1 (.lst (.cons (.isx "BadForm" (.var 0)) (.cons (.isx "BadSide" (.var 0)) (.cons (.isx "BadRow" (.var 0)) .nil)))))
def isx3 (a b c : Str) : CE := (.cons (.isx a (.var 0)) (.cons (.isx b (.var 0)) (.cons (.isx c (.var 0)) .nil)))
def isx2 (a b : Str) : CE := (.cons (.isx a (.var 0)) (.cons (.isx b (.var 0)) .nil))
def rf4 : CS := (.set 1 (.bin .add (.var 1) (.lst (isx3 "NotOver" "BadTree" "NoGift"))))
def rf5 : CS := (.set 1 (.bin .add (.var 1) (.lst (isx3 "NoPoint" "Full" "Stuck"))))
def rf6 : CS := (.set 1 (.bin .add (.var 1) (.lst (isx3 "Nothing" "BadNumber" "BadShare"))))
def rf7 : CS := (.set 1 (.bin .add (.var 1) (.lst (isx3 "BadText" "BadName" "NoName"))))
def rf8 : CS := (.set 1 (.bin .add (.var 1) (.lst (isx2 "NoMatch" "Over"))))
def rf9 : CS := (.if_ (.cmp .ne (.meth .count (.var 1) (.cons (.bool_ true) .nil)) (.int_ 1)) (.seq (.ret (.tup (.cons (.str_ s_wrong) .nil))) .skip) .skip)
def rf10 : CS := (.if_ (.ix (.var 1) (.neg (.int_ 1))) (.seq (.ret (.ifx (.not_ (.isi .bool (.fld "at" (.var 0)))) (.tup (.cons (.str_ s_over) (.cons (.fld "at" (.var 0)) .nil))) (.tup (.cons (.str_ s_wrong) .nil)))) .skip) .skip)
def rf11 : CS := (.set 2 (.lst (.cons (.str_ s_form) (.cons (.str_ s_side) (.cons (.str_ s_row) (.cons (.str_ s_not_over) (.cons (.str_ s_tree) (.cons (.str_ s_gift) (.cons (.str_ s_point) (.cons (.str_ s_full) (.cons (.str_ s_stuck) (.cons (.str_ s_nothing) (.cons (.str_ s_number) (.cons (.str_ s_share) .nil))))))))))))))
def rf12 : CS := (.ret (.tup (.cons (.str_ s_refused) (.cons (.ix (.bin .add (.var 2) (.lst (.cons (.str_ s_text) (.cons (.str_ s_name) (.cons (.str_ s_no_name) (.cons (.str_ s_match) .nil)))))) (.meth .index (.var 1) (.cons (.bool_ true) .nil))) .nil))))
theorem rf_body : c__law_refusal.body = .seq rf1 (.seq rf2 (.seq rf3 (.seq rf4 (.seq rf5 (.seq rf6 (.seq rf7 (.seq rf8 (.seq rf9 (.seq rf10 (.seq rf11 (.seq rf12 .skip))))))))))) := rfl
section
variable {T : Tab} {gl : Str → Option Val} {W : Nat}
theorem e_isx3 {F : Fns} (hx : F.fuel % 2 = 1) (a b c : Str) {c' : Str} {env : Env} {st : Store} {r : Nat} {fs : List (Str × Val)} (h0 : env[0]? = some (some (.ref r))) (hr : st[r]? = some (.inst c' fs)) : evalE F (isx3 a b c) env st = .ok (.tup [.bool (excSub c' a), .bool (excSub c' b), .bool (excSub c' c)]) st := by
  unfold isx3
  simp [isxv hx h0 hr]
theorem e_isx2 {F : Fns} (hx : F.fuel % 2 = 1) (a b : Str) {c' : Str} {env : Env} {st : Store} {r : Nat} {fs : List (Str × Val)} (h0 : env[0]? = some (some (.ref r))) (hr : st[r]? = some (.inst c' fs)) : evalE F (isx2 a b) env st = .ok (.tup [.bool (excSub c' a), .bool (excSub c' b)]) st := by
  unfold isx2
  simp [isxv hx h0 hr]
/-- the kinds, all looked at -/
theorem e_kinds (hX : W % 2 = 1) {n : Nat} {c' : Str} {r : Nat} {fs : List (Str × Val)} {st : Store} (hr : st[r]? = some (.inst c' fs)) (hv : excSub c' "ValueError" = true) :
    ∃ s' k, (∀ R, evalS ⟨callN T gl W n, gl, W⟩ (.seq rf1 (.seq rf2 (.seq rf3 (.seq rf4 (.seq rf5 (.seq rf6 (.seq rf7 (.seq rf8 R)))))))) [some (.ref r), none, none] st = evalS ⟨callN T gl W n, gl, W⟩ R [some (.ref r), some (.ref k), none] s') ∧ s'[k]? = some (.lst (kindNs.map fun c => .bool (excSub c' c))) ∧ (∃ g, s' = st ++ g) := by
  have hx : (⟨callN T gl W n, gl, W⟩ : Fns).fuel % 2 = 1 := hX
  have s1 : evalS ⟨callN T gl W n, gl, W⟩ rf1 [some (.ref r), none, none] st = .ok (.next, [some (.ref r), none, none]) st := by
    simp [rf1, cmpop]
  have s2 : evalS ⟨callN T gl W n, gl, W⟩ rf2 [some (.ref r), none, none] st = .ok (.next, [some (.ref r), none, none]) st := by
    have := isxv (c := "ValueError") hx (env := [some (.ref r), none, none]) rfl hr
    rw [hv] at this
    simp [rf2, this]
  have s3 : evalS ⟨callN T gl W n, gl, W⟩ rf3 [some (.ref r), none, none] st = .ok (.next, [some (.ref r), some (.ref st.length), none]) (st ++ [.lst [.bool (excSub c' "BadForm"), .bool (excSub c' "BadSide"), .bool (excSub c' "BadRow")]]) := by
    simp [rf3, isxv hx (env := [some (.ref r), none, none]) rfl hr]
  have h3 := app_get (g := [.lst [.bool (excSub c' "BadForm"), .bool (excSub c' "BadSide"), .bool (excSub c' "BadRow")]]) hr
  have k3 := end_get (R := st) (c := .lst [.bool (excSub c' "BadForm"), .bool (excSub c' "BadSide"), .bool (excSub c' "BadRow")]) rfl []
  obtain ⟨g3, hg3⟩ : ∃ g, st ++ [.lst [.bool (excSub c' "BadForm"), .bool (excSub c' "BadSide"), .bool (excSub c' "BadRow")]] = st ++ g := ⟨_, rfl⟩
  generalize hq3 : st ++ [Cell.lst [.bool (excSub c' "BadForm"), .bool (excSub c' "BadSide"), .bool (excSub c' "BadRow")]] = t3 at *
  have s4 := addv (F := ⟨callN T gl W n, gl, W⟩) (env := [some (.ref r), some (.ref st.length), none]) rfl k3 (e_isx3 hx "NotOver" "BadTree" "NoGift" rfl h3) (by simp)
  have h4 := app_get (g := [.lst [.bool (excSub c' "NotOver"), .bool (excSub c' "BadTree"), .bool (excSub c' "NoGift")], .lst ([.bool (excSub c' "BadForm"), .bool (excSub c' "BadSide"), .bool (excSub c' "BadRow")] ++ [.bool (excSub c' "NotOver"), .bool (excSub c' "BadTree"), .bool (excSub c' "NoGift")])]) h3
  have k4 : (t3 ++ [Cell.lst [.bool (excSub c' "NotOver"), .bool (excSub c' "BadTree"), .bool (excSub c' "NoGift")], .lst ([.bool (excSub c' "BadForm"), .bool (excSub c' "BadSide"), .bool (excSub c' "BadRow")] ++ [.bool (excSub c' "NotOver"), .bool (excSub c' "BadTree"), .bool (excSub c' "NoGift")])])[t3.length + 1]? = _ := two_get _ _ _
  generalize hq4 : t3 ++ [Cell.lst [.bool (excSub c' "NotOver"), .bool (excSub c' "BadTree"), .bool (excSub c' "NoGift")], .lst ([.bool (excSub c' "BadForm"), .bool (excSub c' "BadSide"), .bool (excSub c' "BadRow")] ++ [.bool (excSub c' "NotOver"), .bool (excSub c' "BadTree"), .bool (excSub c' "NoGift")])] = t4 at *
  have s5 := addv (F := ⟨callN T gl W n, gl, W⟩) (env := [some (.ref r), some (.ref (t3.length + 1)), none]) rfl k4 (e_isx3 hx "NoPoint" "Full" "Stuck" rfl h4) (by simp)
  have h5 := app_get (g := [.lst [.bool (excSub c' "NoPoint"), .bool (excSub c' "Full"), .bool (excSub c' "Stuck")], .lst ([.bool (excSub c' "BadForm"), .bool (excSub c' "BadSide"), .bool (excSub c' "BadRow")] ++ [.bool (excSub c' "NotOver"), .bool (excSub c' "BadTree"), .bool (excSub c' "NoGift")] ++ [.bool (excSub c' "NoPoint"), .bool (excSub c' "Full"), .bool (excSub c' "Stuck")])]) h4
  have k5 : (t4 ++ [Cell.lst [.bool (excSub c' "NoPoint"), .bool (excSub c' "Full"), .bool (excSub c' "Stuck")], .lst ([.bool (excSub c' "BadForm"), .bool (excSub c' "BadSide"), .bool (excSub c' "BadRow")] ++ [.bool (excSub c' "NotOver"), .bool (excSub c' "BadTree"), .bool (excSub c' "NoGift")] ++ [.bool (excSub c' "NoPoint"), .bool (excSub c' "Full"), .bool (excSub c' "Stuck")])])[t4.length + 1]? = _ := two_get _ _ _
  generalize hq5 : t4 ++ [Cell.lst [.bool (excSub c' "NoPoint"), .bool (excSub c' "Full"), .bool (excSub c' "Stuck")], .lst ([.bool (excSub c' "BadForm"), .bool (excSub c' "BadSide"), .bool (excSub c' "BadRow")] ++ [.bool (excSub c' "NotOver"), .bool (excSub c' "BadTree"), .bool (excSub c' "NoGift")] ++ [.bool (excSub c' "NoPoint"), .bool (excSub c' "Full"), .bool (excSub c' "Stuck")])] = t5 at *
  have s6 := addv (F := ⟨callN T gl W n, gl, W⟩) (env := [some (.ref r), some (.ref (t4.length + 1)), none]) rfl k5 (e_isx3 hx "Nothing" "BadNumber" "BadShare" rfl h5) (by simp)
  have h6 : (t5 ++ _)[r]? = _ := app_get (g := [.lst [.bool (excSub c' "Nothing"), .bool (excSub c' "BadNumber"), .bool (excSub c' "BadShare")], .lst ([.bool (excSub c' "BadForm"), .bool (excSub c' "BadSide"), .bool (excSub c' "BadRow")] ++ [.bool (excSub c' "NotOver"), .bool (excSub c' "BadTree"), .bool (excSub c' "NoGift")] ++ [.bool (excSub c' "NoPoint"), .bool (excSub c' "Full"), .bool (excSub c' "Stuck")] ++ [.bool (excSub c' "Nothing"), .bool (excSub c' "BadNumber"), .bool (excSub c' "BadShare")])]) h5
  have k6 : (t5 ++ [Cell.lst [.bool (excSub c' "Nothing"), .bool (excSub c' "BadNumber"), .bool (excSub c' "BadShare")], .lst ([.bool (excSub c' "BadForm"), .bool (excSub c' "BadSide"), .bool (excSub c' "BadRow")] ++ [.bool (excSub c' "NotOver"), .bool (excSub c' "BadTree"), .bool (excSub c' "NoGift")] ++ [.bool (excSub c' "NoPoint"), .bool (excSub c' "Full"), .bool (excSub c' "Stuck")] ++ [.bool (excSub c' "Nothing"), .bool (excSub c' "BadNumber"), .bool (excSub c' "BadShare")])])[t5.length + 1]? = _ := two_get _ _ _
  generalize hq6 : t5 ++ [Cell.lst [.bool (excSub c' "Nothing"), .bool (excSub c' "BadNumber"), .bool (excSub c' "BadShare")], .lst ([.bool (excSub c' "BadForm"), .bool (excSub c' "BadSide"), .bool (excSub c' "BadRow")] ++ [.bool (excSub c' "NotOver"), .bool (excSub c' "BadTree"), .bool (excSub c' "NoGift")] ++ [.bool (excSub c' "NoPoint"), .bool (excSub c' "Full"), .bool (excSub c' "Stuck")] ++ [.bool (excSub c' "Nothing"), .bool (excSub c' "BadNumber"), .bool (excSub c' "BadShare")])] = t6 at *
  have s7 := addv (F := ⟨callN T gl W n, gl, W⟩) (env := [some (.ref r), some (.ref (t5.length + 1)), none]) rfl k6 (e_isx3 hx "BadText" "BadName" "NoName" rfl h6) (by simp)
  generalize hz : ([.bool (excSub c' "BadForm"), .bool (excSub c' "BadSide"), .bool (excSub c' "BadRow")] ++ [.bool (excSub c' "NotOver"), .bool (excSub c' "BadTree"), .bool (excSub c' "NoGift")] ++ [.bool (excSub c' "NoPoint"), .bool (excSub c' "Full"), .bool (excSub c' "Stuck")] ++ [.bool (excSub c' "Nothing"), .bool (excSub c' "BadNumber"), .bool (excSub c' "BadShare")] : List Val) = zs at *
  have hzl : zs.length = 12 := by rw [← hz]; rfl
  have h7 := app_get (g := [.lst [.bool (excSub c' "BadText"), .bool (excSub c' "BadName"), .bool (excSub c' "NoName")], .lst (zs ++ [.bool (excSub c' "BadText"), .bool (excSub c' "BadName"), .bool (excSub c' "NoName")])]) h6
  have k7 : (t6 ++ [Cell.lst [.bool (excSub c' "BadText"), .bool (excSub c' "BadName"), .bool (excSub c' "NoName")], .lst (zs ++ [.bool (excSub c' "BadText"), .bool (excSub c' "BadName"), .bool (excSub c' "NoName")])])[t6.length + 1]? = _ := two_get _ _ _
  generalize hq7 : t6 ++ [Cell.lst [.bool (excSub c' "BadText"), .bool (excSub c' "BadName"), .bool (excSub c' "NoName")], .lst (zs ++ [.bool (excSub c' "BadText"), .bool (excSub c' "BadName"), .bool (excSub c' "NoName")])] = t7 at *
  have s8 := addv (F := ⟨callN T gl W n, gl, W⟩) (env := [some (.ref r), some (.ref (t6.length + 1)), none]) rfl k7 (e_isx2 hx "NoMatch" "Over" rfl h7) (by simp [hzl])
  have k8 : (t7 ++ [Cell.lst [.bool (excSub c' "NoMatch"), .bool (excSub c' "Over")], .lst (zs ++ [.bool (excSub c' "BadText"), .bool (excSub c' "BadName"), .bool (excSub c' "NoName")] ++ [.bool (excSub c' "NoMatch"), .bool (excSub c' "Over")])])[t7.length + 1]? = _ := two_get _ _ _
  refine ⟨_, t7.length + 1, fun R => (seq_next s1).trans ((seq_next s2).trans ((seq_next s3).trans ((seq_next s4).trans ((seq_next s5).trans ((seq_next s6).trans ((seq_next s7).trans (seq_next s8))))))), ?_, ?_⟩
  · rw [k8, ← hz]
    rfl
  · rw [← hq7, ← hq6, ← hq5, ← hq4, ← hq3]
    simp only [List.append_assoc]
    exact ⟨_, rfl⟩
theorem e_refusal_over (P : Pg T gl) (hX : W % 2 = 1) {n : Nat} (hn : 1 ≤ n) {r : Nat} {j : Int} {st : Store} (hr : st[r]? = some (.inst "Over" [("at", .int j)])) : callN T gl W n f__law_refusal [.ref r] st = .ok (.tup [.str s_over, .int j]) st := by
  rw [call_eq P._law_refusal hn]
  have hx : (⟨callN T gl W (n - 1), gl, W⟩ : Fns).fuel % 2 = 1 := hX
  obtain ⟨s', k, e, hk, g, rfl⟩ := e_kinds (T := T) (gl := gl) hX (n := n - 1) hr (by decide +kernel)
  have hkl : kindNs.map (fun c => Val.bool (excSub "Over" c)) = [.bool false, .bool false, .bool false, .bool false, .bool false, .bool false, .bool false, .bool false, .bool false, .bool false, .bool false, .bool false, .bool false, .bool false, .bool false, .bool false, .bool true] := by
    have e1 : kindNs.map (excSub "Over") = [false, false, false, false, false, false, false, false, false, false, false, false, false, false, false, false, true] := by decide +kernel
    have e2 : kindNs.map (fun c => Val.bool (excSub "Over" c)) = (kindNs.map (excSub "Over")).map Val.bool := by rw [List.map_map]; rfl
    rw [e2, e1]
    rfl
  rw [hkl] at hk
  have hcnt := m_countB (k := true) (listAt_lst hk) rfl
  have hmt := mk_app (m := .count) (by decide) hk
  have s9 : evalS ⟨callN T gl W (n - 1), gl, W⟩ rf9 [some (.ref r), some (.ref k), none] (st ++ g) = .ok (.next, [some (.ref r), some (.ref k), none]) (st ++ g) := by
    have e1 : ([Val.bool false, .bool false, .bool false, .bool false, .bool false, .bool false, .bool false, .bool false, .bool false, .bool false, .bool false, .bool false, .bool false, .bool false, .bool false, .bool false, .bool true].countP fun x => flatEq x (.bool true)) = 1 := by decide
    rw [e1] at hcnt
    simp [rf9, hmt, hcnt]
  have hlast := ix_lst (k := -1) (listAt_lst hk)
  rw [at_last (v := .bool true) rfl] at hlast
  simp only at hlast
  have hfl : evalE ⟨callN T gl W (n - 1), gl, W⟩ (.fld "at" (.var 0)) [some (.ref r), some (.ref k), none] (st ++ g) = .ok (.int j) (st ++ g) := by
    rw [ev_fld hx]
    simp [fldAt, app_get hr]
  have s10 : evalS ⟨callN T gl W (n - 1), gl, W⟩ rf10 [some (.ref r), some (.ref k), none] (st ++ g) = .ok (.ret (.tup [.str s_over, .int j]), [some (.ref r), some (.ref k), none]) (st ++ g) := by
    simp [rf10, hlast, hfl]
  refine body_ret (env1 := [some (.ref r), some (.ref k), none]) (v := .tup [.str s_over, .int j]) (s1 := st ++ g) rfl ?_ (gc_app (by simp))
  rw [rf_body]
  exact (e _).trans ((seq_next s9).trans (seq_ret s10))
end

/-! ### what is told of a row -/
def toldV (S : State) : Nat → Val
  | 0 => encPs (pairsS S)
  | 1 => encO (winnerS S)
  | _ => encO (serverS S)
theorem low_told {n : Nat} (S : State) (j : Nat) : (toldV S j).lowB n = true := by
  unfold toldV
  split
  · exact low_encPs _
  · exact low_encO _
  · exact low_encO _
section
variable {T : Tab} {gl : Str → Option Val} {W : Nat}
theorem e_one (P : Pg T gl) {n : Nat} (hn : 22 ≤ n) {f : Form} (hf : FormOk f) {first : Int} (h01 : first = 0 ∨ first = 1) {j q k : Nat} (hj : j < 3) {row : List Int} {st : Store} (hq : st[q]? = some (.lst [f.enc, .int first, .ref k])) (h : RowOk st k row) (hg : goesOn (begun f first) row) : callN T gl W n f__law_one [.int j, .ref q] st = .ok (toldV (plays (begun f first) row) j) st := by
  rw [call_eq P._law_one (by omega)]
  have x0 := ix_lst (k := 0) (listAt_lst hq)
  have x1 := ix_lst (k := 1) (listAt_lst hq)
  have x2 := ix_lst (k := 2) (listAt_lst hq)
  rw [at_0] at x0
  rw [at_1] at x1
  rw [at_2] at x2
  simp only at x0 x1 x2
  have e0 := e_standing (W := W) P (n := n - 1) (by omega) hf h01 h hg
  have e1 := e_winner (W := W) P (n := n - 1) (by omega) hf h01 h hg
  have e2 := e_server (W := W) P (n := n - 1) (by omega) hf h01 h hg
  have z : ∀ j, gc st (toldV (plays (begun f first) row) j) st = _ := fun j => gc_self (low_told _ j)
  have : j = 0 ∨ j = 1 ∨ j = 2 := by omega
  rcases this with rfl | rfl | rfl
  · have z := z 0
    simp only [toldV] at z
    simp [runBody, c__law_one, x0, x1, x2, e0, z, toldV]
  · have z := z 1
    simp only [toldV] at z
    simp [runBody, c__law_one, x0, x1, x2, e1, z, toldV]
  · have z := z 2
    simp only [toldV] at z
    simp [runBody, c__law_one, x0, x1, x2, e2, z, toldV]
theorem x_one (P : Pg T gl) (hX : W % 2 = 1) {n : Nat} (hn : 26 ≤ n) {f : Form} (hf : FormOk f) {first : Int} (h01 : first = 0 ∨ first = 1) {j q k : Nat} (hj : j < 3) {row : List Int} {r0 : Int} {rest : List Int} {st : Store} (hq : st[q]? = some (.lst [f.enc, .int first, .ref k])) (h : RowOk st k (row ++ r0 :: rest)) (hg : goesOn (begun f first) row) (ho : (plays (begun f first) row).isOver = true) : callN T gl W n f__law_one [.int j, .ref q] st = .exc "Over" (.int row.length) st := by
  refine call_exc P._law_one rfl (by omega) rfl ?_
  have x0 := ix_lst (k := 0) (listAt_lst hq)
  have x1 := ix_lst (k := 1) (listAt_lst hq)
  have x2 := ix_lst (k := 2) (listAt_lst hq)
  rw [at_0] at x0
  rw [at_1] at x1
  rw [at_2] at x2
  simp only at x0 x1 x2
  have e0 := x_standing (W := W) P hX (n := n - 1) (by omega) hf h01 h hg ho
  have e1 := x_winner (W := W) P hX (n := n - 1) (by omega) hf h01 h hg ho
  have e2 := x_server (W := W) P hX (n := n - 1) (by omega) hf h01 h hg ho
  have : j = 0 ∨ j = 1 ∨ j = 2 := by omega
  rcases this with rfl | rfl | rfl
  · simp [c__law_one, x0, x1, x2, e0]
  · simp [c__law_one, x0, x1, x2, e1]
  · simp [c__law_one, x0, x1, x2, e2]
def td3 : CS := (.tryc 3 (.call f__law_one (.cons (.var 0) (.cons (.var 1) .nil))) "ScoreError" 4 2)
def td4 : CS := (.ret (.ifx (.cmp .is_ (.var 2) .none_) (.tup (.cons (.str_ s_found) (.cons (.var 3) .nil))) (.call f__law_refusal (.cons (.var 2) .nil))))
theorem td_body : c__law_told.body = .seq (.set 2 .none_) (.seq (.set 3 .none_) (.seq td3 (.seq td4 .skip))) := rfl
theorem e_told (P : Pg T gl) (hX : W % 2 = 1) {n : Nat} (hn : 23 ≤ n) {f : Form} (hf : FormOk f) {first : Int} (h01 : first = 0 ∨ first = 1) {j q k : Nat} (hj : j < 3) {row : List Int} {st : Store} (hq : st[q]? = some (.lst [f.enc, .int first, .ref k])) (h : RowOk st k row) (hg : goesOn (begun f first) row) : callN T gl W n f__law_told [.int j, .ref q] st = .ok (.tup [.str s_found, toldV (plays (begun f first) row) j]) st := by
  rw [call_eq P._law_told (by omega)]
  have hx : (⟨callN T gl W (n - 1), gl, W⟩ : Fns).fuel % 2 = 1 := hX
  have e1 := e_one (W := W) P (n := n - 1) (by omega) hf h01 hj hq h hg
  have s1 : evalS ⟨callN T gl W (n - 1), gl, W⟩ (.set 2 .none_) [some (.int j), some (.ref q), none, none, none] st = .ok (.next, [some (.int j), some (.ref q), some .none, none, none]) st := by simp
  have s2 : evalS ⟨callN T gl W (n - 1), gl, W⟩ (.set 3 .none_) [some (.int j), some (.ref q), some .none, none, none] st = .ok (.next, [some (.int j), some (.ref q), some .none, some .none, none]) st := by simp
  have s3 : evalS ⟨callN T gl W (n - 1), gl, W⟩ td3 [some (.int j), some (.ref q), some .none, some .none, none] st = .ok (.next, [some (.int j), some (.ref q), some .none, some (toldV (plays (begun f first) row) j), none]) st := by
    unfold td3
    rw [es_try hx]
    simp [e1]
  have s4 : evalS ⟨callN T gl W (n - 1), gl, W⟩ td4 [some (.int j), some (.ref q), some .none, some (toldV (plays (begun f first) row) j), none] st = .ok (.ret (.tup [.str s_found, toldV (plays (begun f first) row) j]), [some (.int j), some (.ref q), some .none, some (toldV (plays (begun f first) row) j), none]) st := by
    simp [td4]
  refine body_ret (v := .tup [.str s_found, toldV (plays (begun f first) row) j]) (s1 := st) (env1 := [some (.int j), some (.ref q), some .none, some (toldV (plays (begun f first) row) j), none]) rfl ?_ (gc_self (by simp [low_told]))
  rw [td_body]
  exact (seq_next s1).trans ((seq_next s2).trans ((seq_next s3).trans (seq_ret s4)))
theorem x_told (P : Pg T gl) (hX : W % 2 = 1) {n : Nat} (hn : 27 ≤ n) {f : Form} (hf : FormOk f) {first : Int} (h01 : first = 0 ∨ first = 1) {j q k : Nat} (hj : j < 3) {row : List Int} {r0 : Int} {rest : List Int} {st : Store} (hq : st[q]? = some (.lst [f.enc, .int first, .ref k])) (h : RowOk st k (row ++ r0 :: rest)) (hg : goesOn (begun f first) row) (ho : (plays (begun f first) row).isOver = true) : callN T gl W n f__law_told [.int j, .ref q] st = .ok (.tup [.str s_over, .int row.length]) st := by
  rw [call_eq P._law_told (by omega)]
  have hx : (⟨callN T gl W (n - 1), gl, W⟩ : Fns).fuel % 2 = 1 := hX
  have e1 := x_one (W := W) P hX (n := n - 1) (by omega) hf h01 hj hq h hg ho
  have hfs : excFs "Over" (.int row.length) = [(("at" : Str), Val.int row.length)] := by unfold excFs; exact if_pos rfl
  have s1 : evalS ⟨callN T gl W (n - 1), gl, W⟩ (.set 2 .none_) [some (.int j), some (.ref q), none, none, none] st = .ok (.next, [some (.int j), some (.ref q), some .none, none, none]) st := by simp
  have s2 : evalS ⟨callN T gl W (n - 1), gl, W⟩ (.set 3 .none_) [some (.int j), some (.ref q), some .none, none, none] st = .ok (.next, [some (.int j), some (.ref q), some .none, some .none, none]) st := by simp
  have s3 : evalS ⟨callN T gl W (n - 1), gl, W⟩ td3 [some (.int j), some (.ref q), some .none, some .none, none] st = .ok (.next, [some (.int j), some (.ref q), some (.ref st.length), some .none, none]) (st ++ [.inst "Over" [("at", .int row.length)]]) := by
    unfold td3
    rw [es_try hx]
    simp [e1, hfs]
  have e2 := e_refusal_over (W := W) P hX (n := n - 1) (by omega) (r := st.length) (j := row.length) (st := st ++ [.inst "Over" [("at", .int row.length)]]) (end_get rfl [])
  have s4 : evalS ⟨callN T gl W (n - 1), gl, W⟩ td4 [some (.int j), some (.ref q), some (.ref st.length), some .none, none] (st ++ [.inst "Over" [("at", .int row.length)]]) = .ok (.ret (.tup [.str s_over, .int row.length]), [some (.int j), some (.ref q), some (.ref st.length), some .none, none]) (st ++ [.inst "Over" [("at", .int row.length)]]) := by
    have hc : cmpop .is_ (.ref st.length) .none (st ++ [.inst "Over" [("at", .int row.length)]]) = .ok (.bool false) (st ++ [.inst "Over" [("at", .int row.length)]]) := rfl
    simp [td4, hc, e2]
  refine body_ret (v := .tup [.str s_over, .int row.length]) (s1 := st ++ [.inst "Over" [("at", .int row.length)]]) (env1 := [some (.int j), some (.ref q), some (.ref st.length), some .none, none]) rfl ?_ (gc_app (by simp))
  rw [td_body]
  exact (seq_next s1).trans ((seq_next s2).trans ((seq_next s3).trans (seq_ret s4)))
/-- what is due of a row -/
def told3 (S : State) : List Val := [.tup [.str s_found, toldV S 0], .tup [.str s_found, toldV S 1], .tup [.str s_found, toldV S 2]]
theorem e_due (P : Pg T gl) {n : Nat} (hn : 7 ≤ n) (hW : 501 ≤ W) {f : Form} (hf : FormOk f) {first : Int} (h01 : first = 0 ∨ first = 1) {k : Nat} {row : List Int} {st : Store} (h : RowOk st k row) (hg : goesOn (begun f first) row) : callN T gl W n f__law_due [f.enc, .int first, .ref k] st = .ok (.ref st.length) (st ++ [.lst (told3 (plays (begun f first) row))]) := by
  rw [call_eq P._law_due (by omega)]
  obtain ⟨hk, hrl, hr⟩ := h
  obtain ⟨s', r, p, tail, e1, g1, hr1, hd, hp, _⟩ := e_lplay (W := W) P 4 (n - 1) row k (by omega) (by omega) hr hrl (by omega) f first st 0 hf.2.1 hf.1 h01 hk (Nat.zero_le _)
  rw [List.drop_zero] at hd hp
  obtain ⟨_, hpl⟩ := on_left row _ hg
  rw [hpl] at hd hp
  have e1' : callN T gl W (n - 1) f__law_play [f.enc, .int first, .ref k, .int 0] st = .ok (.ref r) s' := e1
  have htp := bi_tupL (listAt_lst hp)
  have he : Val.tup ((pairsS (plays (begun f first) row)).map encPr) = encPs (pairsS (plays (begun f first) row)) := rfl
  rw [he] at htp
  have s1 : evalS ⟨callN T gl W (n - 1), gl, W⟩ (.set 3 (.call f__law_play (.cons (.var 0) (.cons (.var 1) (.cons (.var 2) (.cons (.int_ 0) .nil)))))) [some f.enc, some (.int first), some (.ref k), none] st = .ok (.next, [some f.enc, some (.int first), some (.ref k), some (.ref r)]) s' := by
    simp [e1']
  have s2 : evalS ⟨callN T gl W (n - 1), gl, W⟩ (.ret (.lst (.cons (.tup (.cons (.str_ s_found) (.cons (.bi .tuple (.cons (.ix (.var 3) (.str_ s_pairs)) .nil)) .nil))) (.cons (.tup (.cons (.str_ s_found) (.cons (.ix (.var 3) (.str_ s_who)) .nil))) (.cons (.tup (.cons (.str_ s_found) (.cons (.ix (.var 3) (.str_ s_server)) .nil))) .nil))))) [some f.enc, some (.int first), some (.ref k), some (.ref r)] s' = .ok (.ret (.ref s'.length), [some f.enc, some (.int first), some (.ref k), some (.ref r)]) (s' ++ [.lst (told3 (plays (begun f first) row))]) := by
    simp [ix_pairs hd, ix_who hd, ix_server hd, htp, told3, toldV]
  obtain ⟨g, rfl⟩ := g1
  refine body_ret (v := .ref (st ++ g).length) (s1 := st ++ g ++ [.lst (told3 (plays (begun f first) row))]) (env1 := [some f.enc, some (.int first), some (.ref k), some (.ref r)]) rfl ((seq_next s1).trans (seq_ret s2)) ?_
  rw [List.append_assoc]
  refine gc_new (by simp) ?_ (by simp [told3, low_told])
  rw [← List.append_assoc]
  exact end_get rfl []
/-- the same, told twice -/
def dTold (S : State) : PyData := .list [.tuple [.str s_found, .tuple ((pairsS S).map fun p => .tuple [.int p.1, .int p.2])], .tuple [.str s_found, dO (winnerS S)], .tuple [.str s_found, dO (serverS S)]]
theorem toD_told {st : Store} {r : Nat} {S : State} (h : st[r]? = some (.lst (told3 S))) : toD st eqDeep (.ref r) = some (dTold S) := by
  have a1 : toD st 22 (encPs (pairsS S)) = some (.tuple ((pairsS S).map fun p => .tuple [.int p.1, .int p.2])) := by
    have e : ∀ ps : List (Int × Int), (ps.map fun p => Val.tup [.int p.1, .int p.2]).mapM (toD st 21) = some (ps.map fun p => PyData.tuple [.int p.1, .int p.2]) := fun ps => by
      induction ps with
      | nil => simp
      | cons x xs ih =>
        have : toD st 21 (.tup [.int x.1, .int x.2]) = some (.tuple [.int x.1, .int x.2]) := by
          show toD st (20 + 1) _ = _
          simp [toD]
        simp [ih, this]
    show (((pairsS S).map fun p => Val.tup [.int p.1, .int p.2]).mapM (toD st 21)).map PyData.tuple = _
    rw [e]; rfl
  have a2 : ∀ o : Option Int, toD st 22 (encO o) = some (dO o) := fun o => by cases o <;> rfl
  have b : ∀ (v : Val) (d : PyData), toD st 22 v = some d → toD st 23 (.tup [.str s_found, v]) = some (.tuple [.str s_found, d]) := fun v d e => by
    show ([Val.str s_found, v].mapM (toD st 22)).map PyData.tuple = _
    have e0 : toD st 22 (.str s_found) = some (.str s_found) := rfl
    simp [e, e0]
  show (listAt st r).bind (fun xs => (xs.mapM (toD st 23)).map PyData.list) = _
  rw [listAt_lst h]
  simp [told3, toldV, b _ _ a1, b _ _ (a2 _), dTold]
theorem shaped_told (S : State) : SeqAt.shaped (dTold S) = true := by
  have hs : PyData.strOk s_found = true := by decide +kernel
  have h : PyData.canLayAll0 ((pairsS S).map fun p => PyData.tuple [.int p.1, .int p.2]) = true ∧ PyData.depthAll ((pairsS S).map fun p => PyData.tuple [.int p.1, .int p.2]) ≤ 1 := by
    induction pairsS S with
    | nil => exact ⟨rfl, by simp [PyData.depthAll]⟩
    | cons x xs ih =>
      have := ih.2
      simp [PyData.canLayAll0, PyData.canLay0, PyData.depthAll, PyData.depth, ih.1]
      omega
  have o : ∀ o : Option Int, PyData.canLay0 (dO o) = true ∧ PyData.depth (dO o) = 0 := fun o => by cases o <;> exact ⟨rfl, rfl⟩
  unfold SeqAt.shaped dTold
  simp [PyData.canLay0, PyData.canLayAll0, PyData.depth, PyData.depthAll, h.1, hs, o]
  omega
theorem ne_told {st : Store} {a b : Nat} {S : State} (h1 : st[a]? = some (.lst (told3 S))) (h2 : st[b]? = some (.lst (told3 S))) : cmpop .ne (.ref a) (.ref b) st = .ok (.bool false) st := ne_same (toD_told h1) (toD_told h2) (shaped_told S) rfl
end

/-! ### law k10 -/
theorem gc_any {old st : Store} {v : Val} (h : v.lowB old.length = true) : ∃ s2, gc old v st = .ok v s2 := by
  unfold gc
  cases mergeS old.length old st with
  | none => exact ⟨st, rfl⟩
  | some s2 => exact ⟨s2, by simp [h]⟩
def cmpT (A : CE) : CE := .comp .range 2 (.cons (.int_ 3) .nil) .nil (.call f__law_told (.cons (.var 2) (.cons (.lst A) .nil)))
section
variable {T : Tab} {gl : Str → Option Val} {W : Nat}
theorem comp_told {n : Nat} {A : CE} {env : Env} {st : Store} {u v w : Val} {gv : Nat → Val} (hA : ∀ (j : Nat) (s : Store), evalE ⟨callN T gl W n, gl, W⟩ A (env.set 2 (some (.int j))) s = .ok (.tup [u, v, w]) s) (h2 : 2 < env.length)
    (ht : ∀ j : Nat, j < 3 → ∀ (q : Nat) (s : Store), s[q]? = some (.lst [u, v, w]) → Grow st s → callN T gl W n f__law_told [.int (j : Int), .ref q] s = .ok (gv j) s) :
    ∃ post, evalE ⟨callN T gl W n, gl, W⟩ (cmpT A) env st = .ok (.ref st.length) (st ++ .lst [gv 0, gv 1, gv 2] :: post) := by
  unfold cmpT
  have h1 : evalE ⟨callN T gl W n, gl, W⟩ (.cons (.int_ 3) .nil) env st = .ok (.tup [.int ((3 : Nat) : Int)]) st := rfl
  rw [comp_of h1 (src_range (m := 3) (by decide))]
  have hh := comp_grow (f := runC ⟨callN T gl W n, gl, W⟩ 2 .nil (.call f__law_told (.cons (.var 2) (.cons (.lst A) .nil))) env) (ok := stays .range (.tup [.int ((3 : Nat) : Int)]) ((List.range 3).map fun (j : Nat) => Val.int (j : Int))) (D := st.length) (pre := st) (enc := fun (j : Nat) => Val.int (j : Int)) (g := gv) rfl (fun _ _ => trivial) (List.range 3) [] [] (fun a ha acc post => by
    have ha3 : a < 3 := by simpa using ha
    refine ⟨post ++ [.lst [u, v, w]], ?_⟩
    have hv : (env.set 2 (some (Val.int (a : Int))))[2]? = some (some (.int a)) := List.getElem?_set_self h2
    have hq : ((st ++ .lst acc :: post) ++ [Cell.lst [u, v, w]])[(st ++ .lst acc :: post).length]? = some (.lst [u, v, w]) := end_get rfl []
    have e := ht a ha3 (st ++ .lst acc :: post).length ((st ++ .lst acc :: post) ++ [.lst [u, v, w]]) hq (((Grow.refl st).app _).app _)
    simp only [runC, isNil, if_true]
    rw [ev_call, ev_cons, ev_var, hv]
    simp only [bindX_ok, ev_cons, ev_lst, hA, bind_ok, List.length_cons, List.length_nil, ev_nil]
    rw [need_pos (small_line (by decide))]
    simp only [bindX_ok, callX_ok]
    rw [e]
    simp) (small_line (by simp))
  obtain ⟨post, e⟩ := hh
  refine ⟨post, ?_⟩
  exact e
def rA1 : CE := (.cons (.var 3) (.cons (.var 5) (.cons (.var 8) .nil)))
def rA2 : CE := (.cons (.var 4) (.cons (.bin .sub (.int_ 1) (.var 5)) (.cons (.var 7) .nil)))
def rA3 : CE := (.cons (.var 3) (.cons (.var 5) (.cons (.var 11) .nil)))
def rb2 : CS := (.if_ (.or2 (.cmp .ne (.var 10) (.call f__law_due (.cons (.var 3) (.cons (.var 5) (.cons (.var 6) .nil))))) (.or1 (.cmp .ne (.var 8) (.var 6)))) (.seq (.ret (.bool_ false)) .skip) .skip)
def rb4 : CS := (.if_ (.cmp .ne (.var 10) (.call f__law_due (.cons (.var 4) (.cons (.bin .sub (.int_ 1) (.var 5)) (.cons (.var 7) .nil))))) (.seq (.ret (.bool_ false)) .skip) .skip)
def rb : CS := .seq (.set 10 (cmpT rA1)) (.seq rb2 (.seq (.set 10 (cmpT rA2)) (.seq rb4 .skip)))
theorem row_grow {st s : Store} {k : Nat} {row : List Int} (h : RowOk st k row) (g : Grow st s) : RowOk s k row := ⟨g.get h.1, h.2⟩
theorem round (P : Pg T gl) (hX : W % 2 = 1) (hW : 501 ≤ W) {n : Nat} (hn : 30 ≤ n) {f o : Form} (hf : FormOk f) (hfo : FormOk o) {first : Int} (h01 : first = 0 ∨ first = 1) {kr ki kg : Nat} {row its : List Int} {st : Store} (h1 : RowOk st kr row) (h2 : RowOk st kg row) (h3 : RowOk st ki its) (g1 : goesOn (begun f first) row) (g2 : goesOn (begun o (1 - first)) its) (v0 v1 : Option Val) (kind : Int) (v9 v10 v11 v12 : Option Val) :
    ∃ s' u, evalS ⟨callN T gl W n, gl, W⟩ rb [v0, v1, some (.int kind), some f.enc, some o.enc, some (.int first), some (.ref kr), some (.ref ki), some (.ref kg), v9, v10, v11, v12] st = .ok (.next, [v0, v1, some (.int kind), some f.enc, some o.enc, some (.int first), some (.ref kr), some (.ref ki), some (.ref kg), v9, u, v11, v12]) s' ∧ Grow st s' := by
  have h01' : 1 - first = 0 ∨ 1 - first = 1 := by omega
  obtain ⟨p1, e1⟩ := comp_told (T := T) (gl := gl) (W := W) (n := n) (A := rA1) (env := [v0, v1, some (.int kind), some f.enc, some o.enc, some (.int first), some (.ref kr), some (.ref ki), some (.ref kg), v9, v10, v11, v12]) (st := st) (u := f.enc) (v := .int first) (w := .ref kg) (gv := fun j => .tup [.str s_found, toldV (plays (begun f first) row) j]) (fun j s => by simp [rA1]) (by simp) (fun j hj q s hq hg => e_told (n := n) P hX (by omega) hf h01 hj hq (row_grow h2 hg) g1)
  have s1 : evalS ⟨callN T gl W n, gl, W⟩ (.set 10 (cmpT rA1)) [v0, v1, some (.int kind), some f.enc, some o.enc, some (.int first), some (.ref kr), some (.ref ki), some (.ref kg), v9, v10, v11, v12] st = .ok (.next, [v0, v1, some (.int kind), some f.enc, some o.enc, some (.int first), some (.ref kr), some (.ref ki), some (.ref kg), v9, some (.ref st.length), v11, v12]) (st ++ .lst (told3 (plays (begun f first) row)) :: p1) := by
    rw [es_set, e1]
    rfl
  have gr1 : Grow st (st ++ .lst (told3 (plays (begun f first) row)) :: p1) := (Grow.refl st).app _
  have c1 : (st ++ .lst (told3 (plays (begun f first) row)) :: p1)[st.length]? = some (.lst (told3 (plays (begun f first) row))) := end_get rfl _
  generalize st ++ .lst (told3 (plays (begun f first) row)) :: p1 = t1 at *
  have e2 := e_due (W := W) P (n := n) (by omega) hW hf h01 (row_grow h1 gr1) g1
  have c2 := app_get (g := [.lst (told3 (plays (begun f first) row))]) c1
  have d2 := end_get (R := t1) (c := .lst (told3 (plays (begun f first) row))) rfl []
  have ne2 := ne_told c2 d2
  have gr2 : Grow st (t1 ++ [.lst (told3 (plays (begun f first) row))]) := gr1.app _
  have q1 := listAt_lst (gr2.get h2.1)
  have q2 := listAt_lst (gr2.get h1.1)
  rw [ints_O] at q1 q2
  have ne3 : cmpop .ne (.ref kg) (.ref kr) (t1 ++ [.lst (told3 (plays (begun f first) row))]) = .ok (.bool false) (t1 ++ [.lst (told3 (plays (begun f first) row))]) := ne_same (toD_listO q1) (toD_listO q2) (shaped_listO _) rfl
  have s2 : evalS ⟨callN T gl W n, gl, W⟩ rb2 [v0, v1, some (.int kind), some f.enc, some o.enc, some (.int first), some (.ref kr), some (.ref ki), some (.ref kg), v9, some (.ref st.length), v11, v12] t1 = .ok (.next, [v0, v1, some (.int kind), some f.enc, some o.enc, some (.int first), some (.ref kr), some (.ref ki), some (.ref kg), v9, some (.ref st.length), v11, v12]) (t1 ++ [.lst (told3 (plays (begun f first) row))]) := by
    simp [rb2, e2, ne2, ne3]
  generalize t1 ++ [.lst (told3 (plays (begun f first) row))] = t2 at *
  obtain ⟨p3, e3⟩ := comp_told (T := T) (gl := gl) (W := W) (n := n) (A := rA2) (env := [v0, v1, some (.int kind), some f.enc, some o.enc, some (.int first), some (.ref kr), some (.ref ki), some (.ref kg), v9, some (.ref st.length), v11, v12]) (st := t2) (u := o.enc) (v := .int (1 - first)) (w := .ref ki) (gv := fun j => .tup [.str s_found, toldV (plays (begun o (1 - first)) its) j]) (fun j s => by simp [rA2]) (by simp) (fun j hj q s hq hg => e_told (n := n) P hX (by omega) hfo h01' hj hq (row_grow h3 (gr2.trans hg)) g2)
  have s3 : evalS ⟨callN T gl W n, gl, W⟩ (.set 10 (cmpT rA2)) [v0, v1, some (.int kind), some f.enc, some o.enc, some (.int first), some (.ref kr), some (.ref ki), some (.ref kg), v9, some (.ref st.length), v11, v12] t2 = .ok (.next, [v0, v1, some (.int kind), some f.enc, some o.enc, some (.int first), some (.ref kr), some (.ref ki), some (.ref kg), v9, some (.ref t2.length), v11, v12]) (t2 ++ .lst (told3 (plays (begun o (1 - first)) its)) :: p3) := by
    rw [es_set, e3]
    rfl
  have gr3 : Grow st (t2 ++ .lst (told3 (plays (begun o (1 - first)) its)) :: p3) := gr2.app _
  have c3 : (t2 ++ .lst (told3 (plays (begun o (1 - first)) its)) :: p3)[t2.length]? = some (.lst (told3 (plays (begun o (1 - first)) its))) := end_get rfl _
  generalize t2 ++ .lst (told3 (plays (begun o (1 - first)) its)) :: p3 = t3 at *
  have e4 := e_due (W := W) P (n := n) (by omega) hW hfo h01' (row_grow h3 gr3) g2
  have c4 := app_get (g := [.lst (told3 (plays (begun o (1 - first)) its))]) c3
  have d4 := end_get (R := t3) (c := .lst (told3 (plays (begun o (1 - first)) its))) rfl []
  have ne4 := ne_told c4 d4
  have s4 : evalS ⟨callN T gl W n, gl, W⟩ rb4 [v0, v1, some (.int kind), some f.enc, some o.enc, some (.int first), some (.ref kr), some (.ref ki), some (.ref kg), v9, some (.ref t2.length), v11, v12] t3 = .ok (.next, [v0, v1, some (.int kind), some f.enc, some o.enc, some (.int first), some (.ref kr), some (.ref ki), some (.ref kg), v9, some (.ref t2.length), v11, v12]) (t3 ++ [.lst (told3 (plays (begun o (1 - first)) its))]) := by
    simp [rb4, e4, ne4]
  refine ⟨_, some (.ref t2.length), (seq_next s1).trans ((seq_next s2).trans ((seq_next s3).trans ((seq_next s4).trans (es_skip)))), gr3.app _⟩
/-- Over, told three times -/
def over3 (k : Int) : List Val := [.tup [.str s_over, .int k], .tup [.str s_over, .int k], .tup [.str s_over, .int k]]
theorem ne_over3 {st : Store} {a b : Nat} {k : Int} (h1 : st[a]? = some (.lst (over3 k))) (h2 : st[b]? = some (.lst (over3 k))) : cmpop .ne (.ref a) (.ref b) st = .ok (.bool false) st := by
  have t : ∀ {r}, st[r]? = some (.lst (over3 k)) → toD st eqDeep (.ref r) = some (.list [.tuple [.str s_over, .int k], .tuple [.str s_over, .int k], .tuple [.str s_over, .int k]]) := fun {r} h => by
    show (listAt st r).bind (fun xs => (xs.mapM (toD st 23)).map PyData.list) = _
    rw [listAt_lst h]
    have e : toD st 23 (.tup [.str s_over, .int k]) = some (.tuple [.str s_over, .int k]) := by
      show toD st (22 + 1) _ = _
      simp [toD]
    simp [over3, e]
  refine ne_same (t h1) (t h2) ?_ rfl
  have hs : PyData.strOk s_over = true := by decide +kernel
  simp [SeqAt.shaped, PyData.canLay0, PyData.canLayAll0, PyData.depth, PyData.depthAll, hs]
theorem eq_found {st : Store} {v : Val} {d : PyData} (h : toD st 23 v = some d) (hs : SeqAt.shaped (.tuple [.str s_found, d]) = true) : cmpop .eq (.tup [.str s_found, v]) (.tup [.str s_found, v]) st = .ok (.bool true) st := by
  have t : toD st eqDeep (.tup [.str s_found, v]) = some (.tuple [.str s_found, d]) := by
    show ([Val.str s_found, v].mapM (toD st 23)).map PyData.tuple = _
    have e0 : toD st 23 (.str s_found) = some (.str s_found) := rfl
    simp [h, e0]
  show optB (eqM st (.tup [.str s_found, v]) (.tup [.str s_found, v])) false st = _
  rw [eq_same t t hs rfl]; rfl
def lw1 : CS := (.set 1 (.lst .nil))
def lw2 : CS := (.set 2 (.call f__law_draw (.cons (.var 0) (.cons (.var 1) (.cons (.int_ 4) .nil)))))
def lw3 : CS := (.set 3 (.call f__law_sized (.cons (.var 0) (.cons (.var 1) (.cons (.ifx (.cmp .eq (.var 2) (.int_ 0)) (.int_ 4) (.int_ 3)) (.cons (.ifx (.cmp .eq (.var 2) (.int_ 0)) (.int_ 2) (.int_ 4)) .nil))))))
def lw4 : CS := (.if_ (.cmp .eq (.var 2) (.int_ 1)) (.seq (.set 3 (.tup (.cons (.str_ s_race) (.cons (.tup (.cons (.str_ s_point) .nil)) (.cons (.call f__law_pick (.cons (.var 0) (.cons (.var 1) (.cons (.lst (.cons (.int_ 11) (.cons (.int_ 21) (.cons (.int_ 30) .nil)))) .nil)))) (.cons (.int_ 2) (.cons (.call f__law_turn (.cons (.var 0) (.cons (.var 1) .nil))) .nil))))))) .skip) .skip)
def lw5 : CS := (.set 4 (.call f__law_sized (.cons (.var 0) (.cons (.var 1) (.cons (.int_ 3) (.cons (.int_ 3) .nil))))))
def lw6 : CS := (.set 5 (.call f__law_draw (.cons (.var 0) (.cons (.var 1) (.cons (.int_ 2) .nil)))))
def lw7 : CS := (.set 6 (.call f__law_row (.cons (.var 0) (.cons (.var 1) (.cons (.var 3) (.cons (.int_ 80) .nil))))))
def lw8 : CS := (.set 7 (.call f__law_row (.cons (.var 0) (.cons (.var 1) (.cons (.var 4) (.cons (.int_ 30) .nil))))))
def lw9 : CS := (.set 8 (.bi .list (.cons (.var 6) .nil)))
def lw10 : CS := (.for_ .range [9] (.cons (.int_ 2) .nil) rb)
def more_ : CE := (.comp .range 12 (.cons (.bin .add (.int_ 1) (.call f__law_draw (.cons (.var 0) (.cons (.var 1) (.cons (.int_ 3) .nil))))) .nil) .nil (.call f__law_draw (.cons (.var 0) (.cons (.var 1) (.cons (.int_ 2) .nil)))))
def lw11a : CS := (.set 11 (.bin .add (.var 6) more_))
def lw11b : CS := (.if_ (.cmp .ne (cmpT rA3) (.bin .mul (.lst (.cons (.tup (.cons (.str_ s_over) (.cons (.bi .len (.cons (.var 6) .nil)) .nil))) .nil)) (.int_ 3))) (.seq (.ret (.bool_ false)) .skip) .skip)
def lw11 : CS := (.if_ (.cmp .isnot (.ix (.call f__law_play (.cons (.var 3) (.cons (.var 5) (.cons (.var 6) (.cons (.int_ 0) .nil))))) (.str_ s_who)) .none_) (.seq lw11a (.seq lw11b .skip)) .skip)
def lw12 : CS := (.ret (.and2 (.cmp .eq (.call f__law_told (.cons (.int_ 0) (.cons (.lst (.cons (.tup (.cons (.str_ s_point) .nil)) (.cons (.var 5) (.cons (.lst .nil) .nil)))) .nil))) (.tup (.cons (.str_ s_found) (.cons (.tup .nil) .nil)))) (.and1 (.cmp .eq (.call f__law_told (.cons (.int_ 2) (.cons (.lst (.cons (.tup (.cons (.str_ s_point) .nil)) (.cons (.int_ 1) (.cons (.lst .nil) .nil)))) .nil))) (.tup (.cons (.str_ s_found) (.cons (.int_ 1) .nil)))))))
theorem lw_body : c_law.body = .seq lw1 (.seq lw2 (.seq lw3 (.seq lw4 (.seq lw5 (.seq lw6 (.seq lw7 (.seq lw8 (.seq lw9 (.seq lw10 (.seq lw11 (.seq lw12 .skip))))))))))) := rfl
end

theorem winner_none' {S : State} (h : S.isOver = false) : winnerS S = none := by
  cases S <;> first | rfl | cases h
section
variable {T : Tab} {gl : Str → Option Val} {W : Nat}
/-- points behind the end -/
theorem law_more (P : Pg T gl) (hX : W % 2 = 1) (hW : 501 ≤ W) (ns : List Int) {n : Nat} (hn : 30 ≤ n) {d : Nat} (hd : d ≤ 50000) {R : Store} {f o : Form} (hf : FormOk f) {first : Int} (h01 : first = 0 ∨ first = 1) {kr : Nat} {row : List Int} (hrl : row.length ≤ 80) (hr : RowOk (base ns d R) (kr + 2) row) (hkr : R[kr]? = some (.lst (row.map Val.int))) (g1 : goesOn (begun f first) row) (kind : Int) (v4 v7 v8 v9 v10 : Option Val) :
    ∃ env s', evalS ⟨callN T gl W n, gl, W⟩ lw11 [some (.ref 0), some (.ref 1), some (.int kind), some f.enc, v4, some (.int first), some (.ref (kr + 2)), v7, v8, v9, v10, none, none] (base ns d R) = .ok (.next, env) s' ∧ env[5]? = some (some (.int first)) ∧ env.length = 13 := by
  obtain ⟨s5, r, p, tail, e5, g5, hr5, hd5, _, _⟩ := e_lplay (W := W) P 4 n row (kr + 2) (by omega) (by omega) hr.2.2 (by omega) (by omega) f first (base ns d R) 0 hf.2.1 hf.1 h01 hr.1 (Nat.zero_le _)
  rw [List.drop_zero, (on_left row _ g1).2] at hd5
  have hxw := ix_who hd5
  have e5' : callN T gl W n f__law_play [f.enc, .int first, .ref (kr + 2), .int 0] (base ns d R) = .ok (.ref r) s5 := e5
  obtain ⟨g, rfl⟩ := g5
  rw [base_app] at e5' hxw hd5
  have hkr5 : (R ++ g)[kr]? = some (.lst (row.map Val.int)) := app_get hkr
  generalize R ++ g = R5 at *
  cases ho : (plays (begun f first) row).isOver with
  | false =>
    rw [winner_none' ho] at hxw
    refine ⟨[some (.ref 0), some (.ref 1), some (.int kind), some f.enc, v4, some (.int first), some (.ref (kr + 2)), v7, v8, v9, v10, none, none], base ns d R5, ?_, rfl, rfl⟩
    simp [lw11, e5', hxw, encO]
  | true =>
    have hw : ∃ w, winnerS (plays (begun f first) row) = some w := by
      cases e : plays (begun f first) row with
      | over w t l => exact ⟨w, rfl⟩
      | _ => rw [e] at ho; cases ho
    obtain ⟨w, hw⟩ := hw
    rw [hw] at hxw
    -- how many more
    have e2 := e_draw (W := W) P (n := n) (by omega) ns (d := d) (by omega) R5 (m := 3) (by decide)
    have hb2 := draw_lt ns (d + 1) (m := 3) (by decide)
    obtain ⟨m, hm⟩ : ∃ m : Nat, 1 + drawF ns (d + 1) 3 = ((m + 1 : Nat) : Int) := ⟨(drawF ns (d + 1) 3).toNat, by omega⟩
    have h1 : evalE ⟨callN T gl W n, gl, W⟩ (.cons (.bin .add (.int_ 1) (.call f__law_draw (.cons (.var 0) (.cons (.var 1) (.cons (.int_ 3) .nil))))) .nil) [some (.ref 0), some (.ref 1), some (.int kind), some f.enc, v4, some (.int first), some (.ref (kr + 2)), v7, v8, v9, v10, none, none] (base ns d R5) = .ok (.tup [.int ((m + 1 : Nat) : Int)]) (base ns (d + 1) R5) := by
      rw [← hm]
      simp [e2]
    have e3 := e_comp_draw (T := T) (gl := gl) (W := W) (n := n) ns (d := d) (d1 := d + 1) (rest := R5) (env := [some (.ref 0), some (.ref 1), some (.int kind), some f.enc, v4, some (.int first), some (.ref (kr + 2)), v7, v8, v9, v10, none, none]) (elt := .call f__law_draw (.cons (.var 0) (.cons (.var 1) (.cons (.int_ 2) .nil)))) (i := 12) (m := m + 1) (g := fun d => Val.int (drawF ns (d + 1) 2)) h1 (by omega) (by omega) (by
      intro x d acc hd
      have q := e_draw (W := W) P (n := n) (by omega) ns (d := d) hd (R5 ++ [.lst acc]) (m := 2) (by decide)
      simp [q])
    generalize hrow : (List.range' (d + 1) (m + 1)).map (fun d => drawF ns (d + 1) 2) = extra
    have hrow2 : (List.range' (d + 1) (m + 1)).map (fun d => Val.int (drawF ns (d + 1) 2)) = extra.map Val.int := by
      rw [← hrow, List.map_map]; rfl
    rw [hrow2] at e3
    have hle : extra.length = m + 1 := by rw [← hrow]; simp
    have hse : sides extra := by
      intro x hx
      rw [← hrow] at hx
      obtain ⟨y, _, rfl⟩ := List.mem_map.mp hx
      have := draw_lt ns (y + 1) (m := 2) (by decide)
      omega
    have hadd := b_addL (st := base ns (d + 1 + (m + 1)) (R5 ++ [.lst (extra.map Val.int)])) (n := kr + 2) (m := R5.length + 2) ((base_get _ _ _ _).trans (app_get hkr5)) ((base_get _ _ _ _).trans (end_get rfl [])) (small_line (by simp; omega))
    rw [base_app, base_length] at hadd
    have sA : evalS ⟨callN T gl W n, gl, W⟩ lw11a [some (.ref 0), some (.ref 1), some (.int kind), some f.enc, v4, some (.int first), some (.ref (kr + 2)), v7, v8, v9, v10, none, none] (base ns d R5) = .ok (.next, [some (.ref 0), some (.ref 1), some (.int kind), some f.enc, v4, some (.int first), some (.ref (kr + 2)), v7, v8, v9, v10, some (.ref ((R5 ++ [Cell.lst (extra.map Val.int)]).length + 2)), none]) (base ns (d + 1 + (m + 1)) (R5 ++ [.lst (extra.map Val.int)] ++ [.lst (row.map Val.int ++ extra.map Val.int)])) := by
      unfold lw11a more_
      rw [es_set, ev_bin]
      simp only [ev_var, List.getElem?_cons_zero, List.getElem?_cons_succ, bind_ok]
      rw [e3, bind_ok, hadd, bindX_ok]
      rfl
    have hro : RowOk (base ns (d + 1 + (m + 1)) (R5 ++ [.lst (extra.map Val.int)] ++ [.lst (row.map Val.int ++ extra.map Val.int)])) ((R5 ++ [Cell.lst (extra.map Val.int)]).length + 2) (row ++ extra) := by
      refine ⟨?_, by simp; omega, fun x hx => ?_⟩
      · rw [base_get, List.map_append]
        exact end_get rfl []
      · rcases List.mem_append.mp hx with z | z
        · exact hr.2.2 x z
        · exact hse x z
    have hkr6 : (base ns (d + 1 + (m + 1)) (R5 ++ [.lst (extra.map Val.int)] ++ [.lst (row.map Val.int ++ extra.map Val.int)]))[kr + 2]? = some (.lst (row.map Val.int)) := by
      rw [base_get]
      exact app_get (app_get hkr5)
    generalize base ns (d + 1 + (m + 1)) (R5 ++ [.lst (extra.map Val.int)] ++ [.lst (row.map Val.int ++ extra.map Val.int)]) = t1 at *
    generalize (R5 ++ [Cell.lst (extra.map Val.int)]).length + 2 = km at *
    obtain ⟨r0, rest, hex⟩ : ∃ r0 rest, extra = r0 :: rest := by
      cases extra with
      | nil => simp at hle
      | cons a b => exact ⟨a, b, rfl⟩
    rw [hex] at hro
    obtain ⟨p1, e6⟩ := comp_told (T := T) (gl := gl) (W := W) (n := n) (A := rA3) (env := [some (.ref 0), some (.ref 1), some (.int kind), some f.enc, v4, some (.int first), some (.ref (kr + 2)), v7, v8, v9, v10, some (.ref km), none]) (st := t1) (u := f.enc) (v := .int first) (w := .ref km) (gv := fun _ => .tup [.str s_over, .int row.length]) (fun j s => by simp [rA3]) (by simp) (fun j hj q s hq hg => x_told (n := n) P hX (by omega) hf h01 hj hq (row_grow hro hg) g1 ho)
    have c1 : (t1 ++ .lst (over3 row.length) :: p1)[t1.length]? = some (.lst (over3 row.length)) := end_get rfl _
    have hk7 : (t1 ++ .lst (over3 row.length) :: p1)[kr + 2]? = some (.lst (row.map Val.int)) := app_get hkr6
    have e6' : evalE ⟨callN T gl W n, gl, W⟩ (cmpT rA3) [some (.ref 0), some (.ref 1), some (.int kind), some f.enc, v4, some (.int first), some (.ref (kr + 2)), v7, v8, v9, v10, some (.ref km), none] t1 = .ok (.ref t1.length) (t1 ++ .lst (over3 row.length) :: p1) := e6
    generalize t1 ++ .lst (over3 row.length) :: p1 = t2 at *
    have hlen := l_ref (listAt_lst hk7)
    rw [List.length_map] at hlen
    have hmul : binop .mul (.ref t2.length) (.int 3) (t2 ++ [.lst [.tup [.str s_over, .int row.length]]]) = .ok (.ref (t2.length + 1)) (t2 ++ [.lst [.tup [.str s_over, .int row.length]], .lst (over3 row.length)]) := by
      show (match (t2 ++ [Cell.lst [.tup [.str s_over, .int row.length]]])[t2.length]? with
        | some (.lst xs) => need (-(2 ^ 63) ≤ (3 : Int) ∧ (3 : Int) < 2 ^ 63 ∧ xs.length * (3 : Int).toNat ≤ sizeLine) (Res.ok (Val.ref (t2 ++ [Cell.lst [.tup [.str s_over, .int row.length]]]).length) ((t2 ++ [Cell.lst [.tup [.str s_over, .int row.length]]]) ++ [Cell.lst (List.replicate (3 : Int).toNat xs).flatten]))
        | _ => .stuck) = _
      rw [end_get rfl []]
      simp only
      rw [need_pos ⟨by decide, by decide, small_line (by simp)⟩]
      simp [over3, List.replicate]
    have ne := ne_over3 (st := t2 ++ [.lst [.tup [.str s_over, .int row.length]], .lst (over3 row.length)]) (a := t1.length) (b := t2.length + 1) (k := row.length) (app_get c1) (two_get _ _ _)
    have sB : evalS ⟨callN T gl W n, gl, W⟩ lw11b [some (.ref 0), some (.ref 1), some (.int kind), some f.enc, v4, some (.int first), some (.ref (kr + 2)), v7, v8, v9, v10, some (.ref km), none] t1 = .ok (.next, [some (.ref 0), some (.ref 1), some (.int kind), some f.enc, v4, some (.int first), some (.ref (kr + 2)), v7, v8, v9, v10, some (.ref km), none]) (t2 ++ [.lst [.tup [.str s_over, .int row.length]], .lst (over3 row.length)]) := by
      unfold lw11b
      rw [es_if, ev_cmp, e6']
      simp [hlen, hmul, ne]
    refine ⟨[some (.ref 0), some (.ref 1), some (.int kind), some f.enc, v4, some (.int first), some (.ref (kr + 2)), v7, v8, v9, v10, some (.ref km), none], t2 ++ [.lst [.tup [.str s_over, .int row.length]], .lst (over3 row.length)], ?_, rfl, rfl⟩
    unfold lw11
    rw [es_if]
    simp only [ev_cmp, ev_ix, ev_call, ev_cons, ev_var, ev_int, ev_str, ev_nil, ev_none, List.getElem?_cons_zero, List.getElem?_cons_succ, bindX_ok, callX_ok, bind_ok]
    rw [e5', bind_ok, hxw]
    simp only [encO, bind_ok, c_inI, tv_bool, if_true]
    exact (seq_next sA).trans ((seq_next sB).trans es_skip)
end

section
variable {T : Tab} {gl : Str → Option Val} {W : Nat}
theorem law_last (P : Pg T gl) (hX : W % 2 = 1) {n : Nat} (hn : 30 ≤ n) {first : Int} (h01 : first = 0 ∨ first = 1) {env : Env} (h5 : env[5]? = some (some (.int first))) (st : Store) :
    ∃ s', evalS ⟨callN T gl W n, gl, W⟩ lw12 env st = .ok (.ret (.bool true), env) s' := by
  have okp : FormOk .point := ⟨trivial, by simp [Form.deep], by simp [Form.size]⟩
  have t1 : ∀ (s : Store) (j : Nat) (f1 : Int), (f1 = 0 ∨ f1 = 1) → j < 3 → callN T gl W n f__law_told [.int j, .ref (s.length + 1)] (s ++ [.lst [], .lst [.tup [.str s_point], .int f1, .ref s.length]]) = .ok (.tup [.str s_found, toldV (.pt f1) j]) (s ++ [.lst [], .lst [.tup [.str s_point], .int f1, .ref s.length]]) := fun s j f1 hf1 hj =>
    e_told (n := n) P hX (by omega) okp hf1 hj (k := s.length) (row := []) (two_get _ _ _) ⟨end_get rfl _, by simp, by simp [sides]⟩ trivial
  have a1 := t1 st 0 first h01 (by decide)
  have hs : PyData.strOk s_found = true := by decide +kernel
  have q1 : ∀ s : Store, cmpop .eq (.tup [.str s_found, .tup []]) (.tup [.str s_found, .tup []]) s = .ok (.bool true) s := fun s => eq_found (d := .tuple []) rfl (by simp [SeqAt.shaped, PyData.canLay0, PyData.canLayAll0, PyData.depth, PyData.depthAll, hs])
  have q2 : ∀ s : Store, cmpop .eq (.tup [.str s_found, .int 1]) (.tup [.str s_found, .int 1]) s = .ok (.bool true) s := fun s => eq_found (d := .int 1) rfl (by simp [SeqAt.shaped, PyData.canLay0, PyData.canLayAll0, PyData.depth, PyData.depthAll, hs])
  have v1 : toldV (.pt first) 0 = .tup [] := rfl
  have v2 : toldV (.pt 1) 2 = .int 1 := rfl
  rw [v1] at a1
  have a2 := t1 (st ++ [.lst [], .lst [.tup [.str s_point], .int first, .ref st.length]]) 2 1 (.inr rfl) (by decide)
  rw [v2] at a2
  simp at a1 a2
  refine ⟨st ++ [.lst [], .lst [.tup [.str s_point], .int first, .ref st.length], .lst [], .lst [.tup [.str s_point], .int 1, .ref (st.length + 2)]], ?_⟩
  unfold lw12
  rw [es_ret]
  simp [h5, a1, q1, a2, q2]
end
theorem law_true {T : Tab} {gl : Str → Option Val} {W : Nat} (P : Pg T gl) (hW : 100000 ≤ W) (hX : W % 2 = 1) (ns : List Int) (hl : ns.length ≤ 63) : ∃ s, callN T gl W 60 f_law [.ref 0] [.ro (ns.map Val.int)] = .ok (.bool true) s := by
  rw [call_eq P.law (by decide)]
  have hb3 : formB 3 ≤ 1000 := by decide
  have hb2 : formB 2 ≤ 1000 := by decide
  have s1 : evalS ⟨callN T gl W 59, gl, W⟩ lw1 [some (.ref 0), none, none, none, none, none, none, none, none, none, none, none, none] [.ro (ns.map Val.int)] = .ok (.next, [some (.ref 0), some (.ref 1), none, none, none, none, none, none, none, none, none, none, none]) (base ns 0 []) := by
    simp [lw1, base]
  have e2 := e_draw (W := W) P (n := 59) (by omega) ns (d := 0) (by omega) [] (m := 4) (by decide)
  generalize drawF ns (0 + 1) 4 = kind at *
  have s2 : evalS ⟨callN T gl W 59, gl, W⟩ lw2 [some (.ref 0), some (.ref 1), none, none, none, none, none, none, none, none, none, none, none] (base ns 0 []) = .ok (.next, [some (.ref 0), some (.ref 1), some (.int kind), none, none, none, none, none, none, none, none, none, none]) (base ns 1 []) := by
    simp [lw2, e2]
  obtain ⟨f0, d3, s3, hf0, hd3⟩ : ∃ (f0 : Form) (d3 : Nat), evalS ⟨callN T gl W 59, gl, W⟩ lw3 [some (.ref 0), some (.ref 1), some (.int kind), none, none, none, none, none, none, none, none, none, none] (base ns 1 []) = .ok (.next, [some (.ref 0), some (.ref 1), some (.int kind), some f0.enc, none, none, none, none, none, none, none, none, none]) (base ns d3 []) ∧ FormOk f0 ∧ d3 ≤ 1001 := by
    by_cases c : kind = 0
    · obtain ⟨f, d1, e, hf, _, hd1⟩ := e_sized (W := W) P ns (top := 2) (by decide) (by decide) (n := 59) (d := 1) (L := 3) (by omega) (by omega) (by omega) []
      have e' : callN T gl W 59 f__law_sized [.ref 0, .ref 1, .int 4, .int 2] (base ns 1 []) = .ok f.enc (base ns d1 []) := e
      exact ⟨f, d1, by simp [lw3, c, e'], hf, by omega⟩
    · obtain ⟨f, d1, e, hf, _, hd1⟩ := e_sized (W := W) P ns (top := 4) (by decide) (by decide) (n := 59) (d := 1) (L := 2) (by omega) (by omega) (by omega) []
      have e' : callN T gl W 59 f__law_sized [.ref 0, .ref 1, .int 3, .int 4] (base ns 1 []) = .ok f.enc (base ns d1 []) := e
      exact ⟨f, d1, by simp [lw3, c, e'], hf, by omega⟩
  obtain ⟨f, d4, R4, s4, hf, hd4⟩ : ∃ (f : Form) (d4 : Nat) (R4 : Store), evalS ⟨callN T gl W 59, gl, W⟩ lw4 [some (.ref 0), some (.ref 1), some (.int kind), some f0.enc, none, none, none, none, none, none, none, none, none] (base ns d3 []) = .ok (.next, [some (.ref 0), some (.ref 1), some (.int kind), some f.enc, none, none, none, none, none, none, none, none, none]) (base ns d4 R4) ∧ FormOk f ∧ d4 ≤ d3 + 2 := by
    by_cases c : kind = 1
    · have e1 := e_pick (W := W) P (n := 59) (by omega) ns (d := d3) (by omega) ([] ++ [.lst [.int 11, .int 21, .int 30]]) (k := 0) (xs := [.int 11, .int 21, .int 30]) rfl (by simp) rfl
      have hb := draw_lt ns (d3 + 1) (m := 3) (by decide)
      have hl3 : (([Val.int 11, .int 21, .int 30].length : Nat) : Int) = 3 := rfl
      rw [hl3] at e1
      obtain ⟨gg, hgg, hv⟩ : ∃ gg : Int, (1 ≤ gg ∧ gg ≤ 30) ∧ [Val.int 11, .int 21, .int 30].getD (drawF ns (d3 + 1) 3).toNat .none = .int gg := by
        generalize drawF ns (d3 + 1) 3 = j at hb
        have : j = 0 ∨ j = 1 ∨ j = 2 := by omega
        rcases this with rfl | rfl | rfl
        · exact ⟨11, by decide, rfl⟩
        · exact ⟨21, by decide, rfl⟩
        · exact ⟨30, by decide, rfl⟩
      rw [hv] at e1
      have e2 := e_turn (W := W) P (n := 59) (by omega) ns (d := d3 + 1) (by omega) ([] ++ [.lst [.int 11, .int 21, .int 30]])
      refine ⟨.race .point gg 2 (turnOf (drawF ns (d3 + 1 + 1) 6)), d3 + 1 + 1, [.lst [.int 11, .int 21, .int 30]], ?_, ⟨⟨trivial, hgg, by decide⟩, by simp [Form.deep], by simp [Form.size]⟩, by omega⟩
      simp at e1 e2
      simp [lw4, c, e1, e2, Form.enc]
    · exact ⟨f0, d3, [], by simp [lw4, c], hf0, by omega⟩
  obtain ⟨o, d5, e5, hfo, _, hd5⟩ := e_sized (W := W) P ns (top := 3) (by decide) (by decide) (n := 59) (d := d4) (L := 2) (by omega) (by omega) (by omega) R4
  have e5' : callN T gl W 59 f__law_sized [.ref 0, .ref 1, .int 3, .int 3] (base ns d4 R4) = .ok o.enc (base ns d5 R4) := e5
  have s5 : evalS ⟨callN T gl W 59, gl, W⟩ lw5 [some (.ref 0), some (.ref 1), some (.int kind), some f.enc, none, none, none, none, none, none, none, none, none] (base ns d4 R4) = .ok (.next, [some (.ref 0), some (.ref 1), some (.int kind), some f.enc, some o.enc, none, none, none, none, none, none, none, none]) (base ns d5 R4) := by
    simp [lw5, e5']
  have e6 := e_draw (W := W) P (n := 59) (by omega) ns (d := d5) (by omega) R4 (m := 2) (by decide)
  have hb6 := draw_lt ns (d5 + 1) (m := 2) (by decide)
  have h01 : drawF ns (d5 + 1) 2 = 0 ∨ drawF ns (d5 + 1) 2 = 1 := by omega
  generalize drawF ns (d5 + 1) 2 = first at *
  have h01' : 1 - first = 0 ∨ 1 - first = 1 := by omega
  have s6 : evalS ⟨callN T gl W 59, gl, W⟩ lw6 [some (.ref 0), some (.ref 1), some (.int kind), some f.enc, some o.enc, none, none, none, none, none, none, none, none] (base ns d5 R4) = .ok (.next, [some (.ref 0), some (.ref 1), some (.int kind), some f.enc, some o.enc, some (.int first), none, none, none, none, none, none, none]) (base ns (d5 + 1) R4) := by
    simp [lw6, e6]
  obtain ⟨row, d7, e7, hs7, hrl7, hg7, hd7⟩ := e_lrow (W := W) P ns (n := 59) (d := d5 + 1) (top := 80) (by omega) (by omega) (by omega) (by omega) hf R4
  have e7' : callN T gl W 59 f__law_row [.ref 0, .ref 1, f.enc, .int 80] (base ns (d5 + 1) R4) = .ok (.ref (R4.length + 2)) (base ns d7 (R4 ++ [.lst (row.map Val.int)])) := e7
  have s7 : evalS ⟨callN T gl W 59, gl, W⟩ lw7 [some (.ref 0), some (.ref 1), some (.int kind), some f.enc, some o.enc, some (.int first), none, none, none, none, none, none, none] (base ns (d5 + 1) R4) = .ok (.next, [some (.ref 0), some (.ref 1), some (.int kind), some f.enc, some o.enc, some (.int first), some (.ref (R4.length + 2)), none, none, none, none, none, none]) (base ns d7 (R4 ++ [.lst (row.map Val.int)])) := by
    simp [lw7, e7']
  have hR7 := end_get (R := R4) (c := .lst (row.map Val.int)) rfl []
  generalize R4 ++ [Cell.lst (row.map Val.int)] = R7 at *
  generalize R4.length = kr at *
  obtain ⟨its, d8, e8, hs8, hrl8, hg8, hd8⟩ := e_lrow (W := W) P ns (n := 59) (d := d7) (top := 30) (by omega) (by omega) (by omega) (by omega) hfo R7
  have e8' : callN T gl W 59 f__law_row [.ref 0, .ref 1, o.enc, .int 30] (base ns d7 R7) = .ok (.ref (R7.length + 2)) (base ns d8 (R7 ++ [.lst (its.map Val.int)])) := e8
  have s8 : evalS ⟨callN T gl W 59, gl, W⟩ lw8 [some (.ref 0), some (.ref 1), some (.int kind), some f.enc, some o.enc, some (.int first), some (.ref (kr + 2)), none, none, none, none, none, none] (base ns d7 R7) = .ok (.next, [some (.ref 0), some (.ref 1), some (.int kind), some f.enc, some o.enc, some (.int first), some (.ref (kr + 2)), some (.ref (R7.length + 2)), none, none, none, none, none]) (base ns d8 (R7 ++ [.lst (its.map Val.int)])) := by
    simp [lw8, e8']
  have hR8 := app_get (g := [.lst (its.map Val.int)]) hR7
  have hI8 := end_get (R := R7) (c := .lst (its.map Val.int)) rfl []
  generalize R7 ++ [Cell.lst (its.map Val.int)] = R8 at *
  generalize R7.length = ki at *
  have hls : bifn .list [.ref (kr + 2)] (base ns d8 R8) = .ok (.ref (R8.length + 2)) (base ns d8 (R8 ++ [.lst (row.map Val.int)])) := by
    show (match listAt (base ns d8 R8) (kr + 2) with | some xs => Res.ok (Val.ref (base ns d8 R8).length) (base ns d8 R8 ++ [Cell.lst xs]) | none => .stuck) = _
    rw [listAt_lst ((base_get ns d8 R8 kr).trans hR8)]
    rfl
  have s9 : evalS ⟨callN T gl W 59, gl, W⟩ lw9 [some (.ref 0), some (.ref 1), some (.int kind), some f.enc, some o.enc, some (.int first), some (.ref (kr + 2)), some (.ref (ki + 2)), none, none, none, none, none] (base ns d8 R8) = .ok (.next, [some (.ref 0), some (.ref 1), some (.int kind), some f.enc, some o.enc, some (.int first), some (.ref (kr + 2)), some (.ref (ki + 2)), some (.ref (R8.length + 2)), none, none, none, none]) (base ns d8 (R8 ++ [.lst (row.map Val.int)])) := by
    simp [lw9, hls]
  have hR9 := app_get (g := [.lst (row.map Val.int)]) hR8
  have hI9 := app_get (g := [.lst (row.map Val.int)]) hI8
  have hG9 := end_get (R := R8) (c := .lst (row.map Val.int)) rfl []
  generalize R8 ++ [Cell.lst (row.map Val.int)] = R9 at *
  generalize R8.length = kg at *
  have g1 : goesOn (begun f first) row := on_sim row (good_begun 4 f 0 hf.2.1 hf.1 hf.2.1 (.inl rfl)) hs7 (sim_begun 4 f 0 first hf.2.1 hf.1) hg7
  have g2 : goesOn (begun o (1 - first)) its := on_sim its (good_begun 4 o 0 hfo.2.1 hfo.1 hfo.2.1 (.inl rfl)) hs8 (sim_begun 4 o 0 (1 - first) hfo.2.1 hfo.1) hg8
  have r1 : RowOk (base ns d8 R9) (kr + 2) row := ⟨(base_get ns d8 R9 kr).trans hR9, by omega, hs7⟩
  have r2 : RowOk (base ns d8 R9) (kg + 2) row := ⟨(base_get ns d8 R9 kg).trans hG9, by omega, hs7⟩
  have r3 : RowOk (base ns d8 R9) (ki + 2) its := ⟨(base_get ns d8 R9 ki).trans hI9, by omega, hs8⟩
  obtain ⟨t1, u1, a1, gr1⟩ := round (W := W) P hX (by omega) (n := 59) (by omega) hf hfo h01 r1 r2 r3 g1 g2 (some (.ref 0)) (some (.ref 1)) kind (some (.int 0)) none none none
  obtain ⟨t2, u2, a2, gr2⟩ := round (W := W) P hX (by omega) (n := 59) (by omega) hf hfo h01 (row_grow r1 gr1) (row_grow r2 gr1) (row_grow r3 gr1) g1 g2 (some (.ref 0)) (some (.ref 1)) kind (some (.int 1)) u1 none none
  have hr : srcItems .range (.tup [.int ((2 : Nat) : Int)]) (base ns d8 R9) = _ := src_range (m := 2) (by decide)
  have hs2 : evalE ⟨callN T gl W 59, gl, W⟩ (.cons (.int_ 2) .nil) [some (.ref 0), some (.ref 1), some (.int kind), some f.enc, some o.enc, some (.int first), some (.ref (kr + 2)), some (.ref (ki + 2)), some (.ref (kg + 2)), none, none, none, none] (base ns d8 R9) = .ok (.tup [.int ((2 : Nat) : Int)]) (base ns d8 R9) := rfl
  have hfor := for_of (is := [9]) (a := rb) hs2 hr
  have hl2 : forLoop [9] (stays .range (.tup [.int ((2 : Nat) : Int)]) ((List.range 2).map fun (j : Nat) => Val.int (j : Int))) (runS ⟨callN T gl W 59, gl, W⟩ rb) ((List.range 2).map fun (j : Nat) => Val.int (j : Int)) [some (.ref 0), some (.ref 1), some (.int kind), some f.enc, some o.enc, some (.int first), some (.ref (kr + 2)), some (.ref (ki + 2)), some (.ref (kg + 2)), none, none, none, none] (base ns d8 R9) = .ok (.next, [some (.ref 0), some (.ref 1), some (.int kind), some f.enc, some o.enc, some (.int first), some (.ref (kr + 2)), some (.ref (ki + 2)), some (.ref (kg + 2)), some (.int 1), u2, none, none]) t2 := by
    have : ((List.range 2).map fun (j : Nat) => Val.int (j : Int)) = [.int 0, .int 1] := rfl
    have b1 : runS ⟨callN T gl W 59, gl, W⟩ rb [some (.ref 0), some (.ref 1), some (.int kind), some f.enc, some o.enc, some (.int first), some (.ref (kr + 2)), some (.ref (ki + 2)), some (.ref (kg + 2)), some (.int 0), none, none, none] (base ns d8 R9) = .ok (.next, [some (.ref 0), some (.ref 1), some (.int kind), some f.enc, some o.enc, some (.int first), some (.ref (kr + 2)), some (.ref (ki + 2)), some (.ref (kg + 2)), some (.int 0), u1, none, none]) t1 := a1
    have b2 : runS ⟨callN T gl W 59, gl, W⟩ rb [some (.ref 0), some (.ref 1), some (.int kind), some f.enc, some o.enc, some (.int first), some (.ref (kr + 2)), some (.ref (ki + 2)), some (.ref (kg + 2)), some (.int 1), u1, none, none] t1 = .ok (.next, [some (.ref 0), some (.ref 1), some (.int kind), some f.enc, some o.enc, some (.int first), some (.ref (kr + 2)), some (.ref (ki + 2)), some (.ref (kg + 2)), some (.int 1), u2, none, none]) t2 := a2
    rw [this, for_next trivial rfl b1, for_next trivial rfl b2]
    exact for_end trivial
  rw [hl2] at hfor
  obtain ⟨gg, hgg⟩ := gr1.trans gr2
  rw [base_app] at hgg
  subst hgg
  obtain ⟨env, s', a11, h5, _⟩ := law_more (W := W) (o := o) P hX (by omega) ns (n := 59) (by omega) (d := d8) (by omega) (R := R9 ++ gg) hf h01 hrl7 (kr := kr) ⟨(base_get ns d8 _ kr).trans (app_get hR9), by omega, hs7⟩ (app_get hR9) g1 kind (some o.enc) (some (.ref (ki + 2))) (some (.ref (kg + 2))) (some (.int 1)) u2
  obtain ⟨s2', a12⟩ := law_last (W := W) P hX (n := 59) (by omega) h01 h5 s'
  obtain ⟨s3', hgc⟩ := gc_any (old := [Cell.ro (ns.map Val.int)]) (st := s2') (v := .bool true) rfl
  refine ⟨s3', body_ret (env1 := env) rfl ?_ hgc⟩
  rw [lw_body]
  exact (seq_next s1).trans ((seq_next s2).trans ((seq_next s3).trans ((seq_next s4).trans ((seq_next s5).trans ((seq_next s6).trans ((seq_next s7).trans ((seq_next s8).trans ((seq_next s9).trans ((seq_next hfor).trans ((seq_next a11).trans (seq_ret a12)))))))))))

end Ev
theorem PySem.Challenge.cw_setpoints_k10_whole_standings_holds : PySem.Challenge.rw_setpoints_k10_whole_standings.Holds := by
  exact Lw.final fun ns hl => Ev.law_true Lw.pg (by decide) (by decide) ns hl
