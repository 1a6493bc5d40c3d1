import PyProof.Rows.All
import Wide.All
import OpenK.AllK
import Wide.FinOn
import HandS.ForMost
import HandS.IsInst
import HandS.TupAny
import HandS.TupMul
import HandS.SetFor
import HandS.Defaults
import HandS.Codes
import HandS.Exc
import HandS.ExcOwn
import HandS.ExcIs
import HandS.ExcField
import HandS.WordsExc
import HandS.ExcValue
import HandS.Flow
import HandS.Style
import KE.KRevSl
import HandS.Small
import HandS.HeadEnd
import HandS.Head0
import HandS.Head1
import HandS.Head2
import HandS.HeadHook1
import HandS.HeadHook2
import KE.KeyNested
import KE.KStateDown
import Lean
import HandS.More
import PySem.Challenge.RW_setpoints_k03_whole_measures
set_option Elab.async false
set_option linter.all false
set_option maxRecDepth 100000
set_option maxHeartbeats 0
namespace PySem
namespace OverX
open PySem.W PySem.Calls PyProof.Rows PySem.HandSPX
def iA (p1 p2 : Pos) : Arguments := { posonlyargs := [], args := [{ arg := "self", annotation := none, pos := p1 }, { arg := "at", annotation := none, pos := p2 }], vararg := none, kwonlyargs := [], kw_defaults := [], kwarg := none, defaults := [] }
def iB (q1 q2 q3 q4 : Pos) : List Stmt := [.Assign [.Attribute (.Name "self" q1) "at" q2] (.Name "at" q3) q4]
def iS : Scope := { kind := .function, names := [(PySem.Str.ofString "self", .local), (PySem.Str.ofString "at", .local)], isGenerator := false, isCoroutine := false, more := [] }
end OverX
end PySem
namespace Ev
open PySem PySem.Spec PyProof.Rows L2
def exc0 : List Str := ["BadForm", "BadSide", "BadRow", "NotOver", "BadTree", "NoGift", "NoPoint", "Full", "Stuck", "Nothing", "BadNumber", "BadShare", "BadText", "BadName", "NoName", "NoMatch"]
def excSub (c' c : Str) : Bool := decide (c = c') || (decide (c = "ScoreError") || decide (c = "ValueError"))
def cA (K : PySem.W.Frag) (c : Str) : Addr := match PySem.W.nsIn K mainGlobals c with
  | some (some (.ref a)) => a
  | _ => 0
def excCB (K : PySem.W.Frag) (D : Addr) : Bool := decide (PySem.W.findIn K (.ref D) "__getattribute__" = some (some (.builtin "BaseException.__getattribute__"))) && (decide (PySem.W.findIn K (.ref D) "__getattr__" = some none) && (decide (PySem.W.subIn K (.ref D) (.type "BaseException") = some true) && (PySem.W.hasDictIn K D && (decide (PySem.W.findIn K (.ref D) "__class__" = some (some (.builtin "object.__class__"))) && (decide (PySem.W.specialIn K (.builtin "object.__class__") "__get__" = some (some (.builtin "getset_descriptor.__get__"))) && (decide (PySem.W.takesIn K (.builtin "object.__class__") = some true) && decide (PySem.W.mroIn K D (.type "object") = some true)))))))
def nsB (K : PySem.W.Frag) (c : Str) : Bool := decide (PySem.W.nsIn K mainGlobals c = some (some (.ref (cA K c))))
def clsB (K : PySem.W.Frag) (c : Str) : Bool := nsB K c && (excCB K (cA K c) && (decide (PySem.W.exmOne K (.ref (cA K c)) (.ref (cA K "ScoreError")) = some true) && (((("ScoreError" : Str) :: "Over" :: exc0).all fun c' => decide (PySem.W.kitOne K (.ref (cA K c)) (.ref (cA K c')) = some (excSub c c'))) && decide (PySem.W.kitOne K (.ref (cA K c)) (.type "ValueError") = some true))))
def mkB (K : PySem.W.Frag) (c : Str) : Bool := PySem.W.excIn K (cA K c) PySem.HandSPX.veTail "ValueError.__new__" && (PySem.W.keepIn K (.ref (cA K c)) && (decide (PySem.W.subIn K (.ref (cA K c)) (.type "BaseException") = some true) && decide (PySem.W.typeIn K (.ref (cA K c)) = some (.type "type"))))
def oclsB (K : PySem.W.Frag) (C : Addr) : Bool := match K.lookup C with
  | some ⟨.type "type", _, .cls cd, sl⟩ => (match cd.mro, sl.toList with
    | .ref C' :: bm, [_, _, _, _, some (.builtin n), _] => decide (C' = C) && (decide (n = "ValueError.__new__") && (!cd.hasDel && (PySem.HandSPX.refsVE bm && cd.hasDict)))
    | _, _ => false)
  | _ => false
def initA (K : PySem.W.Frag) : Addr := match PySem.W.findIn K (.ref (cA K "Over")) "__init__" with
  | some (some (.ref a)) => a
  | _ => 0
def overB (K : PySem.W.Frag) : Bool := oclsB K (cA K "Over") && (decide (PySem.W.findIn K (.ref (cA K "Over")) "__setattr__" = some (some (.builtin "object.__setattr__"))) && (decide (PySem.W.findIn K (.ref (cA K "Over")) "at" = some none) && (decide (PySem.W.findIn K (.ref (cA K "Over")) "__init__" = some (some (.ref (initA K)))) && (decide (PySem.W.typeIn K (.ref (initA K)) = some (.type "function")) && (PySem.W.keepIn K (.ref (cA K "Over")) && (decide (PySem.W.typeIn K (.ref (cA K "Over")) = some (.type "type")) && decide (PySem.W.exmOne K (.ref (cA K "Over")) (.ref (cA K "Over")) = some true)))))))
def exAllB (K : PySem.W.Frag) : Bool := nsB K "ScoreError" && (((("Over" : Str) :: exc0).all fun c => clsB K c) && ((exc0.all fun c => mkB K c) && overB K))
/-! ### the head's facts, with tables of the top -/
abbrev AlX : Type := He.AlD × Bool
def obsX (fa : List He.Fa) (fn : List He.DefD) (ex : PySem.W.Frag → Bool) (K : PySem.W.Frag) : AlX := (He.obsD fa fn K, ex K)
def obsXG (n : Nat) (fa : List He.Fa) (fn : List He.DefD) (ex : PySem.W.Frag → Bool) (g : Addr → Option Obj) : AlX := obsX fa fn ex (He.frG g (He.asD g n))
def SaysX (fa : List He.Fa) (fn : List He.DefD) (ex : PySem.W.Frag → Bool) (K : PySem.W.Frag) : Prop := obsX fa fn ex K = (He.valD fn, true)
def hookX (n : Nat) (fa : List He.Fa) (fn : List He.DefD) (ex : PySem.W.Frag → Bool) : PySem.W.Hook where
  α := AlX
  obs := fun s => obsXG n fa fn ex s.heap.get?
  val := fun _ => (He.valD fn, true)
  says := fun _ h => ∃ K : PySem.W.Frag, K.In h ∧ SaysX fa fn ex K
  of := fun _ _ e => ⟨_, He.frG_in, e⟩
  keeps := fun _ _ _ ⟨K, hK, c⟩ k => ⟨K, PySem.W.Frag.In.keeps hK k, c⟩
theorem obsXG_eq {n : Nat} {fa : List He.Fa} {fn : List He.DefD} {ex : PySem.W.Frag → Bool} {g : Addr → Option Obj} {s : Shared} (h : ∀ a, g a = s.heap.get? a) : obsXG n fa fn ex g = (hookX n fa fn ex).obs s := by
  have e : g = s.heap.get? := funext h
  rw [e] <;> rfl
theorem SaysX.d {fa : List He.Fa} {fn : List He.DefD} {ex : PySem.W.Frag → Bool} {K : PySem.W.Frag} (c : SaysX fa fn ex K) : He.SaysD fa fn K := congrArg (fun z : AlX => z.1) c
theorem SaysX.x {fa : List He.Fa} {fn : List He.DefD} {ex : PySem.W.Frag → Bool} {K : PySem.W.Frag} (c : SaysX fa fn ex K) : ex K = true := congrArg (fun z : AlX => z.2) c
def s_TURNS : Str := ⟨#[84, 85, 82, 78, 83]⟩
def s_MOST_LEAD : Str := ⟨#[77, 79, 83, 84, 95, 76, 69, 65, 68]⟩
def s_MOST_GOAL : Str := ⟨#[77, 79, 83, 84, 95, 71, 79, 65, 76]⟩
def s_SERIES : Str := ⟨#[83, 69, 82, 73, 69, 83]⟩
def s_series : Str := ⟨#[115, 101, 114, 105, 101, 115]⟩
def s_tied : Str := ⟨#[116, 105, 101, 100]⟩
def s_race : Str := ⟨#[114, 97, 99, 101]⟩
def s_point : Str := ⟨#[112, 111, 105, 110, 116]⟩
def s_MOST_SIZE : Str := ⟨#[77, 79, 83, 84, 95, 83, 73, 90, 69]⟩
def s_MOST_DEEP : Str := ⟨#[77, 79, 83, 84, 95, 68, 69, 69, 80]⟩
def s_match : Str := ⟨#[109, 97, 116, 99, 104]⟩
def s_no_name : Str := ⟨#[110, 111, 32, 110, 97, 109, 101]⟩
def s_name : Str := ⟨#[110, 97, 109, 101]⟩
def s_text : Str := ⟨#[116, 101, 120, 116]⟩
def s_refused : Str := ⟨#[114, 101, 102, 117, 115, 101, 100]⟩
def s_share : Str := ⟨#[115, 104, 97, 114, 101]⟩
def s_number : Str := ⟨#[110, 117, 109, 98, 101, 114]⟩
def s_nothing : Str := ⟨#[110, 111, 116, 104, 105, 110, 103]⟩
def s_stuck : Str := ⟨#[115, 116, 117, 99, 107]⟩
def s_full : Str := ⟨#[102, 117, 108, 108]⟩
def s_gift : Str := ⟨#[103, 105, 102, 116]⟩
def s_tree : Str := ⟨#[116, 114, 101, 101]⟩
def s_not_over : Str := ⟨#[110, 111, 116, 32, 111, 118, 101, 114]⟩
def s_row : Str := ⟨#[114, 111, 119]⟩
def s_side : Str := ⟨#[115, 105, 100, 101]⟩
def s_form : Str := ⟨#[102, 111, 114, 109]⟩
def s_over : Str := ⟨#[111, 118, 101, 114]⟩
def s_wrong : Str := ⟨#[119, 114, 111, 110, 103]⟩
def s_ok : Str := ⟨#[111, 107]⟩
def s_on : Str := ⟨#[111, 110]⟩
def s_winner : Str := ⟨#[119, 105, 110, 110, 101, 114]⟩
def s_pairs : Str := ⟨#[112, 97, 105, 114, 115]⟩
def s_twos : Str := ⟨#[116, 119, 111, 115]⟩
def s_each : Str := ⟨#[101, 97, 99, 104]⟩
def s_keep : Str := ⟨#[107, 101, 101, 112]⟩
def s_found : Str := ⟨#[102, 111, 117, 110, 100]⟩
def f_is_number : Str := ⟨#[105, 115, 95, 110, 117, 109, 98, 101, 114]⟩
def f_is_turn : Str := ⟨#[105, 115, 95, 116, 117, 114, 110]⟩
def f_is_race : Str := ⟨#[105, 115, 95, 114, 97, 99, 101]⟩
def f_is_tied : Str := ⟨#[105, 115, 95, 116, 105, 101, 100]⟩
def f_is_series : Str := ⟨#[105, 115, 95, 115, 101, 114, 105, 101, 115]⟩
def f_is_shape : Str := ⟨#[105, 115, 95, 115, 104, 97, 112, 101]⟩
def f_parts : Str := ⟨#[112, 97, 114, 116, 115]⟩
def f_size_of : Str := ⟨#[115, 105, 122, 101, 95, 111, 102]⟩
def f_deep_of : Str := ⟨#[100, 101, 101, 112, 95, 111, 102]⟩
def f_is_form : Str := ⟨#[105, 115, 95, 102, 111, 114, 109]⟩
def f_look_form : Str := ⟨#[108, 111, 111, 107, 95, 102, 111, 114, 109]⟩
def f_deep : Str := ⟨#[100, 101, 101, 112]⟩
def f_size : Str := ⟨#[115, 105, 122, 101]⟩
def f__law_cell : Str := ⟨#[95, 108, 97, 119, 95, 99, 101, 108, 108]⟩
def f__law_mix : Str := ⟨#[95, 108, 97, 119, 95, 109, 105, 120]⟩
def f__law_draw : Str := ⟨#[95, 108, 97, 119, 95, 100, 114, 97, 119]⟩
def f__law_pick : Str := ⟨#[95, 108, 97, 119, 95, 112, 105, 99, 107]⟩
def f__law_refusal : Str := ⟨#[95, 108, 97, 119, 95, 114, 101, 102, 117, 115, 97, 108]⟩
def f__law_turn : Str := ⟨#[95, 108, 97, 119, 95, 116, 117, 114, 110]⟩
def f__law_form : Str := ⟨#[95, 108, 97, 119, 95, 102, 111, 114, 109]⟩
def f__law_size : Str := ⟨#[95, 108, 97, 119, 95, 115, 105, 122, 101]⟩
def f__law_sized : Str := ⟨#[95, 108, 97, 119, 95, 115, 105, 122, 101, 100]⟩
def f__law_one : Str := ⟨#[95, 108, 97, 119, 95, 111, 110, 101]⟩
def f__law_told : Str := ⟨#[95, 108, 97, 119, 95, 116, 111, 108, 100]⟩
def f__law_due : Str := ⟨#[95, 108, 97, 119, 95, 100, 117, 101]⟩
def f_law : Str := ⟨#[108, 97, 119]⟩
end Ev
section
namespace Lw
open PySem PySem.Spec PyProof.Rows L2 Ev
def top (i : Nat) : Stmt := PySem.Challenge.pw_setpoints_k03_whole_measures.main.body.getD i (.Pass ⟨0, 0, 0, 0⟩)
abbrev R : PySem.W.OpenRow := PySem.W.OpenLaw.row PySem.Challenge.rw_setpoints_k03_whole_measures
def dfn (i : Nat) (n : Str) : He.DefD := ⟨(n, none), n, n, defArgs (top i), defBody (top i), defScope (top i), [], []⟩
def dOver : He.DefD := ⟨("Over", some "__init__"), "__init__", "Over.__init__", PySem.OverX.iA ⟨12, 17, 12, 21⟩ ⟨12, 23, 12, 25⟩, PySem.OverX.iB ⟨13, 8, 13, 12⟩ ⟨13, 8, 13, 15⟩ ⟨13, 18, 13, 20⟩ ⟨13, 8, 13, 20⟩, PySem.OverX.iS, [], []⟩
def fn : List He.DefD := [dfn 26 f_is_number, dfn 27 f_is_turn, dfn 28 f_is_race, dfn 29 f_is_tied, dfn 30 f_is_series, dfn 31 f_is_shape, dfn 32 f_parts, dfn 33 f_size_of, dfn 34 f_deep_of, dfn 35 f_is_form, dfn 36 f_look_form, dfn 37 f_deep, dfn 38 f_size, dfn 40 f__law_cell, dfn 41 f__law_mix, dfn 42 f__law_draw, dfn 43 f__law_pick, dfn 44 f__law_refusal, dfn 45 f__law_turn, dfn 46 f__law_form, dfn 47 f__law_size, dfn 48 f__law_sized, dfn 49 f__law_one, dfn 50 f__law_told, dfn 51 f__law_due, dfn 52 f_law, dOver]
def fa : List He.Fa := [.glo f_is_number, .glo f_is_turn, .glo f_is_race, .glo f_is_tied, .glo f_is_series, .glo f_is_shape, .glo f_parts, .glo f_size_of, .glo f_deep_of, .glo f_is_form, .glo f_look_form, .glo f_deep, .glo f_size, .glo f__law_cell, .glo f__law_mix, .glo f__law_draw, .glo f__law_pick, .glo f__law_refusal, .glo f__law_turn, .glo f__law_form, .glo f__law_size, .glo f__law_sized, .glo f__law_one, .glo f__law_told, .glo f__law_due, .glo f_law, .glo s_TURNS, .int s_MOST_DEEP 4, .int s_MOST_SIZE 20, .int s_MOST_GOAL 30, .int s_MOST_LEAD 3, .glo s_SERIES, .free "len", .free "abs", .free "max", .free "min", .free "sum", .free "all", .free "int", .free "str", .free "list", .free "tuple", .free "isinstance", .free "bool", .free "range", .free "ValueError"]
def ex (K : PySem.W.Frag) : Bool := He.tupB K s_TURNS [.str s_keep, .str s_each, .str s_twos, .str s_pairs, .str s_winner, .str s_on] && He.tupB K s_SERIES [.int 1, .int 3, .int 5, .int 7] && exAllB K
def loose0 : List Str := ["ScoreError", "BadForm", "BadSide", "BadRow", "Over", "NotOver", "BadTree", "NoGift", "NoPoint", "Full", "Stuck", "Nothing", "BadNumber", "BadShare", "BadText", "BadName", "NoName", "NoMatch", "TURNS", "MOST_DEEP", "MOST_SIZE", "MOST_GOAL", "MOST_LEAD", "SERIES", "is_number", "is_turn", "is_race", "is_tied", "is_series", "is_shape"]
def loose1 : List Str := ["parts", "size_of", "deep_of", "is_form", "look_form", "deep", "size", "_law_cell", "_law_mix", "_law_draw", "_law_pick", "_law_refusal", "_law_turn", "_law_form", "_law_size", "_law_sized", "_law_one", "_law_told", "_law_due"]
def loose : List Str := loose0 ++ loose1
abbrev hk : PySem.W.Hook := hookX 4 fa fn ex
def ob (s : PySem.W.SharedT) : AlX := obsXG 4 fa fn ex (HandSHeadRun.getT s)
theorem ob_eq (s : PySem.W.SharedT) : ob s = hk.obs s.abs := obsXG_eq (HandSHeadRun.getT_eq s)
theorem run (w : World) : HandSHeadRun.RunEq R (PySem.W.view R.prog [52]) hk ob 6000 loose w := by
  intro os
  kernel_rfl
open HandSHeadRun PySem.W in
theorem h_e : opening R.prog = plainProg R.prog.main.scope.names := by kernel_rfl
open HandSHeadRun PySem.W in
theorem h_f : ∀ s, fenceModules? R.prog s = some s := fun s => by kernel_rfl
open HandSHeadRun PySem.W in
theorem h_def : defOf (view R.prog [52]) R.name = some (topDef R.prog 52, []) := by kernel_rfl
open HandSHeadRun PySem.W in
theorem h_p : R.prog.theDef R.name = some ((topDef R.prog 52).params, (topDef R.prog 52).body, (topDef R.prog 52).scope) := by kernel_rfl
open HandSHeadRun PySem.W in
theorem h_k : kwWritten? (topDef R.prog 52).params.kwonlyargs (topDef R.prog 52).params.kw_defaults = some [] := by kernel_rfl
theorem h_k1 : R.wellSaid = true := by decide +kernel
open HandSHeadRun PySem.W in
theorem h_ok : (chainsOk (view R.prog [52]) && opensWell R.prog && (frees R.toRowW && R.within.isEmpty)) = true := by decide +kernel
theorem h_b : R.prog.bare := ⟨rfl, rfl, rfl, rfl, rfl, by decide +kernel⟩
end Lw
end
set_option Elab.async false
set_option linter.all false
set_option maxRecDepth 100000
set_option maxHeartbeats 4000000
/-! ## The evaluator: values, store, core language -/
namespace Ev
open PySem

/-- a plain value: tuples are trees, lists, dicts, instances stand in the store -/
inductive Val where
  | none
  | bool (b : Bool)
  | int (i : Int)
  | str (s : Str)
  | tup (xs : List Val)
  | ref (n : Nat)
  deriving Inhabited

inductive Cell where
  | lst (xs : List Val)
  | ro (xs : List Val)
  | dict (kvs : List (Sum Int Str × Val))
  | inst (c : Str) (fs : List (Str × Val))

abbrev Store := List Cell

inductive Res (α : Type) where
  | ok (a : α) (s : Store)
  | exc (c : Str) (v : Val) (s : Store)
  | stuck

def Res.bind {α β : Type} (r : Res α) (f : α → Store → Res β) : Res β :=
  match r with
  | .ok a s => f a s
  | .exc _ _ _ => .stuck
  | .stuck => .stuck
/-- .. an error goes on -/
def Res.bindX {α β : Type} (r : Res α) (f : α → Store → Res β) : Res β :=
  match r with
  | .ok a s => f a s
  | .exc c v s => .exc c v s
  | .stuck => .stuck
@[simp] theorem bindX_ok {α β : Type} (a : α) (s : Store) (f : α → Store → Res β) : (Res.ok a s).bindX f = f a s := rfl
@[simp] theorem bindX_stuck {α β : Type} (f : α → Store → Res β) : (Res.stuck : Res α).bindX f = .stuck := rfl
@[simp] theorem bindX_exc {α β : Type} (c : Str) (v : Val) (s : Store) (f : α → Store → Res β) : (Res.exc c v s : Res α).bindX f = .exc c v s := rfl
theorem bind_eq_exc {α β : Type} {r : Res α} {f : α → Store → Res β} {c : Str} {v : Val} {s : Store} (h : r.bind f = .exc c v s) : ∃ a s1, r = .ok a s1 ∧ f a s1 = .exc c v s := by
  cases r with
  | ok a s1 => exact ⟨a, s1, rfl, h⟩
  | exc _ _ _ => cases h
  | stuck => cases h
theorem bindX_eq_exc {α β : Type} {r : Res α} {f : α → Store → Res β} {c : Str} {v : Val} {s : Store} (h : r.bindX f = .exc c v s) : r = .exc c v s ∨ ∃ a s1, r = .ok a s1 ∧ f a s1 = .exc c v s := by
  cases r with
  | ok a s1 => exact .inr ⟨a, s1, rfl, h⟩
  | exc _ _ _ => cases h; exact .inl rfl
  | stuck => cases h
@[simp] theorem bind_ok {α β : Type} (a : α) (s : Store) (f : α → Store → Res β) : (Res.ok a s).bind f = f a s := rfl
@[simp] theorem bind_stuck {α β : Type} (f : α → Store → Res β) : (Res.stuck : Res α).bind f = .stuck := rfl
@[simp] theorem bind_exc {α β : Type} (c : Str) (v : Val) (s : Store) (f : α → Store → Res β) : (Res.exc c v s : Res α).bind f = .stuck := rfl
theorem bind_eq_ok {α β : Type} {r : Res α} {f : α → Store → Res β} {b : β} {s : Store} (h : r.bind f = .ok b s) : ∃ a s1, r = .ok a s1 ∧ f a s1 = .ok b s := by
  cases r with
  | ok a s1 => exact ⟨a, s1, rfl, h⟩
  | exc c v s1 => cases h
  | stuck => cases h

/-- a guard -/
def need {α : Type} (p : Prop) [Decidable p] (r : Res α) : Res α := if p then r else .stuck
@[simp] theorem need_pos {α : Type} {p : Prop} [Decidable p] {r : Res α} (h : p) : need p r = r := if_pos h
theorem need_ok {α : Type} {p : Prop} [Decidable p] {r : Res α} {a : α} {s : Store} (h : need p r = .ok a s) : p ∧ r = .ok a s := by
  unfold need at h
  split at h
  · exact ⟨‹_›, h⟩
  · cases h

mutual
/-- no reference at or above n -/
def Val.lowB (n : Nat) : Val → Bool
  | .tup xs => lowL n xs
  | .ref m => decide (m < n)
  | .none => true
  | .bool _ => true
  | .int _ => true
  | .str _ => true
def lowL (n : Nat) : List Val → Bool
  | [] => true
  | x :: xs => x.lowB n && lowL n xs
end

/-- a list cell whose items have no reference at or above n -/
def Cell.lowC (n : Nat) : Cell → Bool
  | .lst xs => lowL n xs
  | .ro _ => false
  | .dict _ => false
  | .inst _ _ => false

/-! ### operations on values -/
inductive Bop where | add | sub | mul | fdiv | mod | pow
  deriving DecidableEq
inductive Cop where | eq | ne | lt | le | gt | ge | isin | notin | is_ | isnot
  deriving DecidableEq
inductive Ty where | int | bool | str | tuple | list
  deriving DecidableEq
inductive Bi where | len | abs | max | min | sum | all | int | str | list | tuple
  deriving DecidableEq
inductive Mt where | append | extend | pop | count | index | get
  deriving DecidableEq
inductive Src where | seq | range
  deriving DecidableEq

/-- the items of a list in the store -/
def listAt (st : Store) (n : Nat) : Option (List Val) :=
  match st[n]? with
  | some (.lst xs) => some xs
  | some (.ro xs) => some xs
  | _ => none

/-- deep data of a value -/
def toD (st : Store) : Nat → Val → Option PyData
  | _, .none => some .none
  | _, .bool b => some (.bool b)
  | _, .int i => some (.int i)
  | _, .str s => some (.str s)
  | 0, .tup _ => none
  | k + 1, .tup xs => (xs.mapM (toD st k)).map PyData.tuple
  | 0, .ref _ => none
  | k + 1, .ref n => (listAt st n).bind fun xs => (xs.mapM (toD st k)).map PyData.list

def scalB : Val → Val → Option Bool
  | .none, .none => some true
  | .none, .int _ => some false
  | .int _, .none => some false
  | .none, .bool _ => some false
  | .bool _, .none => some false
  | .none, .str _ => some false
  | .str _, .none => some false
  | .int i, .int j => some (decide (i = j))
  | .bool a, .bool b => some (decide (a = b))
  | .str a, .str b => some (decide (a = b))
  | .int _, .str _ => some false
  | .str _, .int _ => some false
  | .bool _, .str _ => some false
  | .str _, .bool _ => some false
  | _, _ => none

/-- how deep == looks -/
def eqDeep : Nat := 24
def eqM (st : Store) (a b : Val) : Option Bool :=
  match scalB a b with
  | some r => some r
  | none => (match toD st eqDeep a, toD st eqDeep b with
    | some d, some e => if SeqAt.shaped d = true ∧ SeqAt.shaped e = true then some (PyData.eqv d e) else none
    | _, _ => none)

def flatB : Val → Bool
  | .none => true
  | .bool _ => true
  | .int _ => true
  | .str _ => true
  | .tup _ => false
  | .ref _ => false
def flatEq : Val → Val → Bool
  | .none, .none => true
  | .bool a, .bool b => a == b
  | .bool a, .int b => (if a then 1 else 0) == b
  | .int a, .bool b => a == (if b then 1 else 0)
  | .int a, .int b => a == b
  | .str a, .str b => a == b
  | _, _ => false

def seqItems (st : Store) : Val → Option (List Val)
  | .tup xs => some xs
  | .ref n => listAt st n
  | _ => none

def inM (st : Store) (a b : Val) : Option Bool :=
  (seqItems st b).bind fun xs => if flatB a = true ∧ xs.all flatB = true then some (xs.any fun y => flatEq y a) else none

def optB (o : Option Bool) (neg : Bool) (st : Store) : Res Val :=
  match o with
  | some b => .ok (.bool (if neg then !b else b)) st
  | none => .stuck

def cmpop (op : Cop) (a b : Val) (st : Store) : Res Val :=
  match op with
  | .eq => optB (eqM st a b) false st
  | .ne => optB (eqM st a b) true st
  | .lt => (match a, b with | .int i, .int j => .ok (.bool (decide (i < j))) st | _, _ => .stuck)
  | .le => (match a, b with | .int i, .int j => .ok (.bool (decide (i ≤ j))) st | _, _ => .stuck)
  | .gt => (match a, b with | .int i, .int j => .ok (.bool (decide (j < i))) st | _, _ => .stuck)
  | .ge => (match a, b with | .int i, .int j => .ok (.bool (decide (j ≤ i))) st | _, _ => .stuck)
  | .isin => optB (inM st a b) false st
  | .notin => optB (inM st a b) true st
  | .is_ => (match b with | .none => .ok (.bool (match a with | .none => true | _ => false)) st | _ => .stuck)
  | .isnot => (match b with | .none => .ok (.bool (match a with | .none => false | _ => true)) st | _ => .stuck)

def binop (op : Bop) (a b : Val) (st : Store) : Res Val :=
  match op, a, b with
  | .add, .int i, .int j => .ok (.int (i + j)) st
  | .add, .str x, .str y => need (x.length + y.length ≤ sizeLine) (.ok (.str (x ++ y)) st)
  | .add, .tup xs, .tup ys => need (xs.length + ys.length ≤ sizeLine) (.ok (.tup (xs ++ ys)) st)
  | .add, .ref n, .ref m => (match st[n]?, st[m]? with
    | some (.lst xs), some (.lst ys) => need (xs.length + ys.length ≤ sizeLine) (.ok (.ref st.length) (st ++ [.lst (xs ++ ys)]))
    | _, _ => .stuck)
  | .sub, .int i, .int j => .ok (.int (i - j)) st
  | .mul, .int i, .int j => need ((-(2 ^ 64) < i ∧ i < 2 ^ 64) ∨ (-(2 ^ 64) < j ∧ j < 2 ^ 64)) (.ok (.int (i * j)) st)
  | .mul, .tup xs, .int k => need (xs ≠ [] ∧ 2 ≤ k ∧ k ≤ 1000 ∧ xs.length ≤ 1000) (.ok (.tup (List.replicate k.toNat xs).flatten) st)
  | .mul, .ref n, .int k => (match st[n]? with
    | some (.lst xs) => need (-(2 ^ 63) ≤ k ∧ k < 2 ^ 63 ∧ xs.length * k.toNat ≤ sizeLine) (.ok (.ref st.length) (st ++ [.lst (List.replicate k.toNat xs).flatten]))
    | _ => .stuck)
  | .fdiv, .int i, .int j => need (0 < j ∧ j < 1073741824) (.ok (.int (i / j)) st)
  | .mod, .int i, .int j => need (0 < j) (.ok (.int (i % j)) st)
  | .pow, .int i, .int j => need (0 ≤ j ∧ j ≤ 1000000 ∧ i.natAbs < 2 ^ 64) (.ok (.int (i ^ j.toNat)) st)
  | _, _, _ => .stuck

def truth (st : Store) : Val → Option Bool
  | .none => some false
  | .bool b => some b
  | .int i => some (i != 0)
  | .str s => if s.length ≤ sizeLine then some ((s.length : Int) != 0) else none
  | .tup xs => some (!xs.isEmpty)
  | .ref n => (listAt st n).map fun xs => !xs.isEmpty

/-! dicts with int and text keys -/
def keyOf : Val → Option (Sum Int Str)
  | .int i => some (.inl i)
  | .str s => some (.inr s)
  | _ => none
def valK (kvs : List (Sum Int Str × Val)) (k : Sum Int Str) : Option Val := (kvs.find? fun kv => decide (kv.1 = k)).map (·.2)
def putKV (kvs : List (Sum Int Str × Val)) (k : Sum Int Str) (v : Val) : List (Sum Int Str × Val) :=
  if (kvs.any fun kv => decide (kv.1 = k)) = true then kvs.map (fun kv => if kv.1 = k then (kv.1, v) else kv) else kvs ++ [(k, v)]
def mergeKV (kvs more : List (Sum Int Str × Val)) : List (Sum Int Str × Val) := more.foldl (fun acc kv => putKV acc kv.1 kv.2) kvs
def toPairs : List Val → Option (List (Sum Int Str × Val))
  | [] => some []
  | k :: v :: r => (keyOf k).bind fun x => (toPairs r).map ((x, v) :: ·)
  | _ => none

def ixCell (c : Cell) (i : Val) : Option Val :=
  match c with
  | .lst xs => (match i with | .int k => L2.atI xs k | _ => none)
  | .ro xs => (match i with | .int k => L2.atI xs k | _ => none)
  | .dict kvs => (keyOf i).bind (valK kvs)
  | .inst _ _ => none
def ixop (a i : Val) (st : Store) : Res Val :=
  match a, i with
  | .tup xs, .int k => (match L2.atI xs k with | some v => .ok v st | none => .stuck)
  | .str s, .int k => (match L2.atI s.cps.toList k with | some c => need (s.length ≤ sizeLine) (.ok (.str ⟨#[c]⟩) st) | none => .stuck)
  | .ref n, i => (match (st[n]?).bind fun c => ixCell c i with | some v => .ok v st | none => .stuck)
  | _, _ => .stuck

/-- a bound of a slice: left out, or an int -/
def part (v : Val) (st : Store) : Res (Option Int) := match v with | .int i => .ok (some i) st | _ => .stuck
def cut {α : Type} (xs : List α) (lo hi : Option Int) : List α := (xs.drop (HT.sIx xs.length 0 lo)).take (HT.sIx xs.length xs.length hi - HT.sIx xs.length 0 lo)
def sliceop (a : Val) (l h : Option Int) (st : Store) : Res Val :=
  match a with
  | .tup xs => .ok (.tup (cut xs l h)) st
  | .ref n => (match listAt st n with
    | some xs => .ok (.ref st.length) (st ++ [.lst (cut xs l h)])
    | none => .stuck)
  | _ => .stuck

/-- a[::-1] -/
def revop (a : Val) (st : Store) : Res Val :=
  match a with
  | .tup xs => .ok (.tup xs.reverse) st
  | .ref n => (match listAt st n with | some xs => .ok (.ref st.length) (st ++ [.lst xs.reverse]) | none => .stuck)
  | _ => .stuck

def isInst (t : Ty) (st : Store) : Val → Option Bool
  | .none => some false
  | .bool _ => some (decide (t = .int) || decide (t = .bool))
  | .int _ => some (decide (t = .int))
  | .str _ => some (decide (t = .str))
  | .tup _ => some (decide (t = .tuple))
  | .ref n => (match st[n]? with
    | some (.lst _) => some (decide (t = .list))
    | _ => none)

def allInts : List Val → Option (List Int)
  | [] => some []
  | .int i :: r => (allInts r).map (i :: ·)
  | _ :: _ => none
def allBools : List Val → Option (List Bool)
  | [] => some []
  | .bool b :: r => (allBools r).map (b :: ·)
  | _ :: _ => none
def maxI : List Int → Option Int
  | [] => none
  | x :: xs => some (xs.foldl (fun a b => if b > a then b else a) x)
def minI : List Int → Option Int
  | [] => none
  | x :: xs => some (xs.foldl (fun a b => if b < a then b else a) x)

def imax (a b : Int) : Int := if b > a then b else a
def imin (a b : Int) : Int := if b < a then b else a
def iabs (a : Int) : Int := if a < 0 then -a else a
def bifn (b : Bi) (vs : List Val) (st : Store) : Res Val :=
  match b, vs with
  | .len, [.tup xs] => .ok (.int xs.length) st
  | .len, [.str s] => need (s.length ≤ sizeLine) (.ok (.int s.length) st)
  | .len, [.ref n] => (match listAt st n with | some xs => .ok (.int xs.length) st | none => .stuck)
  | .abs, [.int i] => .ok (.int (iabs i)) st
  | .max, [.int i, .int j] => .ok (.int (imax i j)) st
  | .min, [.int i, .int j] => .ok (.int (imin i j)) st
  | .max, [.ref n] => (match (listAt st n).bind fun xs => (allInts xs).bind maxI with | some m => .ok (.int m) st | none => .stuck)
  | .min, [.ref n] => (match (listAt st n).bind fun xs => (allInts xs).bind minI with | some m => .ok (.int m) st | none => .stuck)
  | .sum, [.ref n] => (match (listAt st n).bind allInts with | some ns => .ok (.int ns.sum) st | none => .stuck)
  | .all, [.ref n] => (match (listAt st n).bind allBools with | some bs => .ok (.bool (bs.all id)) st | none => .stuck)
  | .int, [.int i] => .ok (.int i) st
  | .int, [.bool b] => .ok (.int (if b then 1 else 0)) st
  | .int, [.str s] => (match PySem.intText? s with | some n => need (s.length ≤ 640) (.ok (.int n) st) | none => .stuck)
  | .list, [.tup xs] => .ok (.ref st.length) (st ++ [.lst xs])
  | .list, [.ref n] => (match listAt st n with | some xs => .ok (.ref st.length) (st ++ [.lst xs]) | none => .stuck)
  | .tuple, [.tup xs] => .ok (.tup xs) st
  | .tuple, [.ref n] => (match listAt st n with | some xs => .ok (.tup xs) st | none => .stuck)
  | _, _ => .stuck


def metop (m : Mt) (o : Val) (vs : List Val) (st : Store) : Res Val :=
  match m, o, vs with
  | .append, .ref n, [y] => (match st[n]? with
    | some (.lst xs) => need (xs.length < sizeLine) (.ok .none (st.set n (.lst (xs ++ [y]))))
    | _ => .stuck)
  | .count, .ref n, [.int k] => (match (listAt st n).bind allInts with | some ns => .ok (.int (ns.count k : Nat)) st | none => .stuck)
  | .count, .ref n, [.bool k] => (match listAt st n with
    | some xs => if xs.all flatB = true then .ok (.int ((xs.countP fun x => flatEq x (.bool k)) : Nat)) st else .stuck
    | none => .stuck)
  | .pop, .ref n, [] => (match st[n]? with
    | some (.lst xs) => (match xs.getLast? with | some y => .ok y (st.set n (.lst xs.dropLast)) | none => .stuck)
    | _ => .stuck)
  | .index, .ref n, [y] => (match listAt st n with
    | some xs => if flatB y = true ∧ xs.all flatB = true then (match xs.findIdx? fun x => flatEq x y with | some j => .ok (.int (j : Nat)) st | none => .stuck) else .stuck
    | none => .stuck)
  | .get, .ref n, [k, d] => (match st[n]?, keyOf k with
    | some (.dict kvs), some x => .ok ((valK kvs x).getD d) st
    | _, _ => .stuck)
  | _, _, _ => .stuck

/-- the receiver's kind, ahead of the arguments -/
def mtOk (m : Mt) (o : Val) (st : Store) : Bool :=
  match o with
  | .ref n => (match m with
    | .get => (match st[n]? with | some (.dict _) => true | _ => false)
    | _ => (listAt st n).isSome)
  | _ => false

/-! errors held: their class, their field -/
def excAll : List Str := "ScoreError" :: "ValueError" :: "Over" :: exc0
def excFs (c : Str) (v : Val) : List (Str × Val) := if c = "Over" then [("at", v)] else []
def isExc (c : Str) (st : Store) : Val → Option Bool
  | .ref n => (match st[n]? with | some (.inst c' _) => some (excSub c' c) | _ => none)
  | _ => none
def fldAt (f : Str) (st : Store) : Val → Option Val
  | .ref n => (match st[n]? with | some (.inst c fs) => if c = "Over" ∧ f = "at" then fs.lookup f else none | _ => none)
  | _ => none

/-! ### the core language -/
inductive CE where
  | var (i : Nat)
  | none_
  | bool_ (b : Bool)
  | int_ (i : Int)
  | str_ (s : Str)
  | glob (x : Str)
  | nil
  | cons (a r : CE)
  | tup (args : CE)
  | lst (args : CE)
  | bin (op : Bop) (a b : CE)
  | neg (a : CE)
  | cmp (op : Cop) (a b : CE)
  | chain (op op' : Cop) (a b c : CE)
  | and1 (a : CE)
  | and2 (a r : CE)
  | or1 (a : CE)
  | or2 (a r : CE)
  | not_ (a : CE)
  | ifx (c a b : CE)
  | ix (a i : CE)
  | slice (a lo hi : CE)
  | rev (a : CE)
  | call (f : Str) (args : CE)
  | bi (b : Bi) (args : CE)
  | isi (t : Ty) (a : CE)
  | meth (m : Mt) (o args : CE)
  | comp (k : Src) (i : Nat) (src cond elt : CE)
  | kv (k v r : CE)
  | dict (ps : CE)
  | isx (c : Str) (a : CE)
  | fld (f : Str) (a : CE)

abbrev Env := List (Option Val)
def isNil : CE → Bool
  | .nil => true
  | _ => false

/-- a loop's items, and the list that must stay as it is -/
def srcItems (k : Src) (v : Val) (st : Store) : Option (List Val) :=
  match k, v with
  | .seq, .tup xs => some xs
  | .seq, .ref n => listAt st n
  | .range, .tup [.int n] => if n < 2 ^ 62 ∧ -(2 ^ 62) ≤ n then some ((List.range n.toNat).map fun (j : Nat) => Val.int (j : Int)) else none
  | _, _ => none
def stays (k : Src) (v : Val) (xs : List Val) (st : Store) : Prop :=
  match k, v with
  | .seq, .ref n => listAt st n = some xs
  | _, _ => True

open Classical in
noncomputable def compLoop (f : Val → Store → Res (Option Val)) (ok : Store → Prop) (D : Nat) : List Val → Store → Res Val
  | [], st => if ok st then .ok (.ref D) st else .stuck
  | x :: xs, st => if ok st then ((f x st).bind fun o st1 => match o with
    | none => compLoop f ok D xs st1
    | some y => (match st1[D]? with
      | some (.lst acc) => if acc.length < sizeLine then compLoop f ok D xs (st1.set D (.lst (acc ++ [y]))) else .stuck
      | _ => .stuck)) else .stuck

def testV (v : Val) (st : Store) : Res Bool := match truth st v with | some b => .ok b st | none => .stuck

structure Fns where
  fn : Str → List Val → Store → Res Val
  glob : Str → Option Val
  fuel : Nat
  has : Str → Bool

open Classical in
/-- a call: an error of the arguments goes on, if the function is one -/
noncomputable def callX (F : Fns) (f : Str) (r : Res Val) : Res Val :=
  match r with
  | .ok (.tup vs) s1 => F.fn f vs s1
  | .exc c v s1 => if F.has f = true then .exc c v s1 else .stuck
  | _ => .stuck
@[simp] theorem callX_ok (F : Fns) (f : Str) (vs : List Val) (s : Store) : callX F f (.ok (.tup vs) s) = F.fn f vs s := rfl
noncomputable def evalE (F : Fns) : CE → Env → Store → Res Val
  | .var i, env, st => (match env[i]? with | some (some v) => .ok v st | _ => .stuck)
  | .none_, _, st => .ok .none st
  | .bool_ b, _, st => .ok (.bool b) st
  | .int_ i, _, st => .ok (.int i) st
  | .str_ s, _, st => .ok (.str s) st
  | .glob x, _, st => (match F.glob x with | some v => .ok v st | none => .stuck)
  | .nil, _, st => .ok (.tup []) st
  | .cons a r, env, st => (evalE F a env st).bindX fun v s1 => (evalE F r env s1).bindX fun w s2 => match w with | .tup vs => .ok (.tup (v :: vs)) s2 | _ => .stuck
  | .tup args, env, st => (evalE F args env st).bind fun w s1 => match w with | .tup vs => need (vs.length ≤ sizeLine) (.ok (.tup vs) s1) | _ => .stuck
  | .lst args, env, st => (evalE F args env st).bind fun w s1 => match w with | .tup vs => need (vs.length ≤ sizeLine) (.ok (.ref s1.length) (s1 ++ [.lst vs])) | _ => .stuck
  | .bin op a b, env, st => (evalE F a env st).bind fun x s1 => (evalE F b env s1).bind fun y s2 => binop op x y s2
  | .neg a, env, st => (evalE F a env st).bind fun x s1 => match x with | .int i => .ok (.int (-i)) s1 | _ => .stuck
  | .cmp op a b, env, st => (evalE F a env st).bind fun x s1 => (evalE F b env s1).bind fun y s2 => cmpop op x y s2
  | .chain op op' a b c, env, st => (evalE F a env st).bind fun x s1 => (evalE F b env s1).bind fun y s2 => (cmpop op x y s2).bind fun r s3 => match r with
    | .bool d => if d = true then (evalE F c env s3).bind fun z s4 => cmpop op' y z s4 else .ok (.bool false) s3
    | _ => .stuck
  | .and1 a, env, st => evalE F a env st
  | .and2 a r, env, st => (evalE F a env st).bind fun x s1 => match x with
    | .bool d => if d = true then evalE F r env s1 else .ok (.bool false) s1
    | _ => .stuck
  | .or1 a, env, st => evalE F a env st
  | .or2 a r, env, st => (evalE F a env st).bind fun x s1 => match x with
    | .bool d => if d = true then .ok (.bool true) s1 else evalE F r env s1
    | _ => .stuck
  | .not_ a, env, st => (evalE F a env st).bind fun x s1 => (testV x s1).bind fun b s2 => .ok (.bool (!b)) s2
  | .ifx c a b, env, st => (evalE F c env st).bind fun x s1 => (testV x s1).bind fun t s2 => if t = true then evalE F a env s2 else evalE F b env s2
  | .ix a i, env, st => (evalE F a env st).bind fun x s1 => (evalE F i env s1).bind fun y s2 => ixop x y s2
  | .slice a lo hi, env, st => (evalE F a env st).bind fun x s1 =>
    (if isNil lo = true then Res.ok none s1 else (evalE F lo env s1).bind part).bind fun l s2 =>
    (if isNil hi = true then Res.ok none s2 else (evalE F hi env s2).bind part).bind fun h s3 => sliceop x l h s3
  | .rev a, env, st => (evalE F a env st).bind fun x s1 => revop x s1
  | .call f args, env, st => callX F f (evalE F args env st)
  | .bi b args, env, st => (evalE F args env st).bind fun w s1 => match w with | .tup vs => bifn b vs s1 | _ => .stuck
  | .isi t a, env, st => (evalE F a env st).bind fun x s1 => match isInst t s1 x with | some b => .ok (.bool b) s1 | none => .stuck
  | .meth m o args, env, st => (evalE F o env st).bind fun x s1 => need (mtOk m x s1 = true) <| (evalE F args env s1).bind fun w s2 => match w with | .tup vs => metop m x vs s2 | _ => .stuck
  | .comp k i src cond elt, env, st => (evalE F src env st).bind fun v s1 => match srcItems k v s1 with
    | some xs => compLoop (fun x s => if isNil cond = true then (evalE F elt (env.set i (some x)) s).bind fun y s3 => .ok (some y) s3
        else (evalE F cond (env.set i (some x)) s).bind fun t s2 => (testV t s2).bind fun b s3 => if b = true then (evalE F elt (env.set i (some x)) s3).bind fun y s4 => .ok (some y) s4 else .ok none s3) (stays k v xs) s1.length xs (s1 ++ [.lst []])
    | none => .stuck
  | .kv k v r, env, st => (evalE F k env st).bind fun x s1 => (evalE F v env s1).bind fun y s2 => (evalE F r env s2).bind fun w s3 => match w with | .tup vs => .ok (.tup (x :: y :: vs)) s3 | _ => .stuck
  | .dict ps, env, st => (evalE F ps env (st ++ [.dict []])).bind fun w s1 => match w with
    | .tup vs => (match s1[st.length]?, toPairs vs with
      | some (.dict []), some kvs => need (kvs.length ≤ 15) (.ok (.ref st.length) (s1.set st.length (.dict (mergeKV [] kvs))))
      | _, _ => .stuck)
    | _ => .stuck
  | .isx c a, env, st => if F.fuel % 2 = 1 then ((evalE F a env st).bind fun x s1 => match isExc c s1 x with | some b => .ok (.bool b) s1 | none => .stuck) else .stuck
  | .fld f a, env, st => if F.fuel % 2 = 1 then ((evalE F a env st).bind fun x s1 => match fldAt f s1 x with | some v => .ok v s1 | none => .stuck) else .stuck

inductive CS where
  | skip
  | seq (s r : CS)
  | expr (e : CE)
  | ret (e : CE)
  | retN
  | pass
  | brk
  | cont
  | set (i : Nat) (e : CE)
  | tset (is : List Nat) (e : CE)
  | tpar (i j : Nat) (e : CE)
  | sub (o i e : CE)
  | if_ (c : CE) (a b : CS)
  | while_ (c : CE) (a : CS)
  | for_ (k : Src) (is : List Nat) (src : CE) (a : CS)
  | never
  | raise0 (c : Str)
  | raise1 (c : Str) (e : CE)
  | tryc (i : Nat) (e : CE) (x : Str) (n j : Nat)

inductive Flow where
  | next | brk | cont | ret (v : Val)

def setAll : List Nat → List Val → Env → Option Env
  | [], [], env => some env
  | i :: is, v :: vs, env => setAll is vs (env.set i (some v))
  | _, _, _ => none
/-- a loop's target: one name, or several for a tuple -/
def bindTo : List Nat → Val → Env → Option Env
  | [i], v, env => some (env.set i (some v))
  | is, .tup vs, env => setAll is vs env
  | _, _, _ => none

def subStore (o i v : Val) (st : Store) : Res Unit :=
  match o with
  | .ref n => (match st[n]? with
    | some (.lst xs) => (match i with
      | .int k => (match L2.ixN xs.length k with | some j => .ok () (st.set n (.lst (xs.set j v))) | none => .stuck)
      | _ => .stuck)
    | some (.dict kvs) => (match keyOf i with
      | some k => need (kvs.length < sizeLine) (.ok () (st.set n (.dict (putKV kvs k v))))
      | none => .stuck)
    | _ => .stuck)
  | _ => .stuck

noncomputable def whileLoop (c : Env → Store → Res Bool) (b : Env → Store → Res (Flow × Env)) : Nat → Env → Store → Res (Flow × Env)
  | 0, _, _ => .stuck
  | n + 1, env, st => (c env st).bind fun t s1 => if t = true then ((b env s1).bind fun p s2 => match p.1 with
      | .next => whileLoop c b n p.2 s2
      | .cont => whileLoop c b n p.2 s2
      | .brk => .ok (.next, p.2) s2
      | .ret v => .ok (.ret v, p.2) s2) else .ok (.next, env) s1

open Classical in
noncomputable def forLoop (is : List Nat) (ok : Store → Prop) (b : Env → Store → Res (Flow × Env)) : List Val → Env → Store → Res (Flow × Env)
  | [], env, st => if ok st then .ok (.next, env) st else .stuck
  | x :: xs, env, st => if ok st then (match bindTo is x env with
    | some env1 => (b env1 st).bindX fun p s2 => (match p.1 with
      | .next => forLoop is ok b xs p.2 s2
      | .cont => forLoop is ok b xs p.2 s2
      | .brk => .ok (.next, p.2) s2
      | .ret v => .ok (.ret v, p.2) s2)
    | none => .stuck) else .stuck

noncomputable def evalS (F : Fns) : CS → Env → Store → Res (Flow × Env)
  | .skip, env, st => .ok (.next, env) st
  | .seq s r, env, st => (evalS F s env st).bindX fun p s1 => match p.1 with
    | .next => evalS F r p.2 s1
    | f => .ok (f, p.2) s1
  | .expr e, env, st => (evalE F e env st).bindX fun _ s1 => .ok (.next, env) s1
  | .ret e, env, st => (evalE F e env st).bindX fun v s1 => .ok (.ret v, env) s1
  | .retN, env, st => .ok (.ret .none, env) st
  | .pass, env, st => .ok (.next, env) st
  | .brk, env, st => .ok (.brk, env) st
  | .cont, env, st => .ok (.cont, env) st
  | .set i e, env, st => (evalE F e env st).bindX fun v s1 => .ok (.next, env.set i (some v)) s1
  | .tset is e, env, st => (evalE F e env st).bind fun v s1 => match v with
    | .tup vs => (match setAll is vs env with | some env1 => .ok (.next, env1) s1 | none => .stuck)
    | _ => .stuck
  | .tpar i j e, env, st => (evalE F e env st).bind fun w s1 => match w with
    | .tup [x, y] => .ok (.next, (env.set i (some x)).set j (some y)) s1
    | _ => .stuck
  | .sub o i e, env, st => (evalE F e env st).bind fun v s1 => (evalE F o env s1).bind fun x s2 => (evalE F i env s2).bind fun y s3 => (subStore x y v s3).bind fun _ s4 => .ok (.next, env) s4
  | .if_ c a b, env, st => (evalE F c env st).bind fun x s1 => (testV x s1).bind fun t s2 => if t = true then evalS F a env s2 else evalS F b env s2
  | .while_ c a, env, st => whileLoop (fun env s => (evalE F c env s).bind fun x s1 => testV x s1) (fun env s => evalS F a env s) F.fuel env st
  | .for_ k is src a, env, st => (evalE F src env st).bind fun v s1 => match srcItems k v s1 with
    | some xs => forLoop is (stays k v xs) (fun env s => evalS F a env s) xs env s1
    | none => .stuck
  | .never, _, _ => .stuck
  | .raise0 c, _, st => if c ∈ exc0 ∧ F.fuel % 2 = 1 then .exc c .none st else .stuck
  | .raise1 c e, env, st => if c = "Over" ∧ F.fuel % 2 = 1 then (evalE F e env st).bind fun v s1 => .exc c v s1 else .stuck
  | .tryc i e x n j, env, st => if x = "ScoreError" ∧ F.fuel % 2 = 1 then (match evalE F e env st with
    | .ok v s1 => .ok (.next, env.set i (some v)) s1
    | .exc c v s1 => .ok (.next, (env.set j (some (.ref s1.length))).set n none) (s1 ++ [.inst c (excFs c v)])
    | .stuck => .stuck) else .stuck

/-! ### functions -/
structure Def where
  params : Nat
  names : List Str
  body : CS
abbrev Tab := List (Str × Def)

noncomputable def runBody (F : Fns) (d : Def) (args : List Val) (st : Store) : Res Val :=
  if args.length = d.params then
    (evalS F d.body (args.map some ++ List.replicate (d.names.length - args.length) none) st).bindX fun p s1 => match p.1 with
      | .ret v => .ok v s1
      | .next => .ok .none s1
      | _ => .stuck
  else .stuck
/-- the expressions, the statements that errors may leave -/
def canR : CE → Bool
  | .and1 _ => false
  | .and2 _ _ => false
  | .or1 _ => false
  | .or2 _ _ => false
  | .cons a r => canR a && canR r
  | .call _ args => canR args && !isNil args
  | .ifx _ a b => canR a && canR b
  | _ => true
def canRS : CS → Bool
  | .seq a r => canRS a && canRS r
  | .expr e => canR e
  | .ret e => canR e
  | .set _ e => canR e
  | .if_ _ a b => canRS a && canRS b
  | .for_ _ _ _ a => canRS a
  | .tryc _ _ _ _ _ => false
  | _ => true
def canB (T : Tab) (f : Str) : Bool := match T.lookup f with
  | some d => canRS d.body
  | none => false
def fin (b : Bool) (r : Res Val) : Res Val := match r with
  | .exc c v s => if b = true then .exc c v s else .stuck
  | r => r
@[simp] theorem fin_ok (b : Bool) (v : Val) (s : Store) : fin b (.ok v s) = .ok v s := rfl
def hasN (T : Tab) (n : Nat) (f : Str) : Bool := decide (n ≠ 0) && (T.lookup f).isSome
noncomputable def callN (T : Tab) (gl : Str → Option Val) (W : Nat) : Nat → Str → List Val → Store → Res Val
  | 0, _, _, _ => .stuck
  | n + 1, f, args, st => match T.lookup f with
    | some d => fin (canB T f) (runBody ⟨callN T gl W n, gl, W, hasN T n⟩ d args st)
    | none => .stuck
end Ev

set_option Elab.async false
set_option linter.all false
set_option maxRecDepth 100000
set_option maxHeartbeats 4000000
/-! ## How plain values and the store stand in the abstract heap -/
namespace Ev
open PySem PySem.Spec PyProof.Rows L2

mutual
inductive RV (K : PySem.W.Frag) (ρ : List Addr) (H : Hp) : Val → V → Prop
  | none : RV K ρ H .none .non
  | bool (b : Bool) : RV K ρ H (.bool b) (.bl b)
  | int (i : Int) : RV K ρ H (.int i) (.int i)
  | str (s : Str) : RV K ρ H (.str s) (.str s)
  | tup {xs : List Val} {a : Addr} {vs : List V} : SqT K H a vs → RVs K ρ H xs vs → RV K ρ H (.tup xs) (.ref a)
  | ref {n : Nat} {a : Addr} : ρ[n]? = some a → RV K ρ H (.ref n) (.ref a)
inductive RVs (K : PySem.W.Frag) (ρ : List Addr) (H : Hp) : List Val → List V → Prop
  | nil : RVs K ρ H [] []
  | cons {x : Val} {v : V} {xs : List Val} {vs : List V} : RV K ρ H x v → RVs K ρ H xs vs → RVs K ρ H (x :: xs) (v :: vs)
end

/-- an error held: its class, its dict -/
def exK (a : Addr) (cls : Value) (d : Option Addr) : HO := .ext fun h => ∃ (oe : Obj) (vs : Array Value), h.get? a = some oe ∧ Zc cls d oe ∧ oe.data = .fields vs
/-- tuples, errors stay -/
structure Gr (K : PySem.W.Frag) (H H' : Hp) : Prop where
  tup : ∀ a vs, SqT K H a vs → SqT K H' a vs
  ext : ∀ a φ, H a = some (.ext φ) → H' a = some (.ext φ)
  xd : ∀ a fs, H a = some (.xd fs) → H' a = some (.xd fs)
theorem Gr.refl {K : PySem.W.Frag} {H : Hp} : Gr K H H := ⟨fun _ _ h => h, fun _ _ h => h, fun _ _ h => h⟩
theorem Gr.trans {K : PySem.W.Frag} {H H1 H2 : Hp} (a : Gr K H H1) (b : Gr K H1 H2) : Gr K H H2 := ⟨fun x vs h => b.tup x vs (a.tup x vs h), fun x vs h => b.ext x vs (a.ext x vs h), fun x vs h => b.xd x vs (a.xd x vs h)⟩
/-- more names of cells -/
def Ex (ρ ρ' : List Addr) : Prop := ∃ m, ρ' = ρ ++ m
theorem Ex.refl {ρ : List Addr} : Ex ρ ρ := ⟨[], by simp⟩
theorem Ex.trans {a b c : List Addr} (h : Ex a b) (h' : Ex b c) : Ex a c := by
  obtain ⟨m, rfl⟩ := h; obtain ⟨m', rfl⟩ := h'; exact ⟨m ++ m', by simp⟩
theorem Ex.get {ρ ρ' : List Addr} (h : Ex ρ ρ') {n : Nat} {a : Addr} (e : ρ[n]? = some a) : ρ'[n]? = some a := by
  obtain ⟨m, rfl⟩ := h
  rw [List.getElem?_append_left (List.getElem?_eq_some_iff.mp e).1]; exact e

section
variable {K : PySem.W.Frag} {ρ ρ' : List Addr} {H H' : Hp}
mutual
theorem RV.mono (hx : Ex ρ ρ') (hg : Gr K H H') : ∀ (x : Val) (v : V), RV K ρ H x v → RV K ρ' H' x v
  | .none, _, h => by cases h; exact .none
  | .bool _, _, h => by cases h; exact .bool _
  | .int _, _, h => by cases h; exact .int _
  | .str _, _, h => by cases h; exact .str _
  | .tup xs, _, h => by
    cases h with
    | tup a b => exact .tup (hg.tup _ _ a) (RVs.mono hx hg xs _ b)
  | .ref _, _, h => by
    cases h with
    | ref a => exact .ref (hx.get a)
theorem RVs.mono (hx : Ex ρ ρ') (hg : Gr K H H') : ∀ (xs : List Val) (vs : List V), RVs K ρ H xs vs → RVs K ρ' H' xs vs
  | [], _, h => by cases h; exact .nil
  | x :: xs, _, h => by
    cases h with
    | cons a b => exact .cons (RV.mono hx hg x _ a) (RVs.mono hx hg xs _ b)
end
/-- what has no reference beyond ρ -/
theorem RV.cutTo {m : List Addr} : ∀ (x : Val) (v : V), x.lowB ρ.length = true → RV K (ρ ++ m) H x v → RV K ρ H x v := by
  intro x
  refine Val.rec (motive_1 := fun x => ∀ (v : V), x.lowB ρ.length = true → RV K (ρ ++ m) H x v → RV K ρ H x v) (motive_2 := fun xs => ∀ (vs : List V), lowL ρ.length xs = true → RVs K (ρ ++ m) H xs vs → RVs K ρ H xs vs) ?_ ?_ ?_ ?_ ?_ ?_ ?_ ?_ x
  · intro v _ h; cases h; exact .none
  · intro b v _ h; cases h; exact .bool _
  · intro b v _ h; cases h; exact .int _
  · intro b v _ h; cases h; exact .str _
  · intro xs ih v hb h
    cases h with
    | tup a b => exact .tup a (ih _ hb b)
  · intro n v hb h
    cases h with
    | ref a =>
      have : n < ρ.length := of_decide_eq_true hb
      rw [List.getElem?_append_left this] at a
      exact .ref a
  · intro vs _ h; cases h; exact .nil
  · intro x xs ih1 ih2 vs hb h
    cases h with
    | cons a b =>
      have hb : (x.lowB ρ.length && lowL ρ.length xs) = true := hb
      obtain ⟨h1, h2⟩ := Bool.and_eq_true_iff.mp hb
      exact .cons (ih1 _ h1 a) (ih2 _ h2 b)
theorem RVs.cutTo {m : List Addr} : ∀ (xs : List Val) (vs : List V), lowL ρ.length xs = true → RVs K (ρ ++ m) H xs vs → RVs K ρ H xs vs
  | [], _, _, h => by cases h; exact .nil
  | x :: xs, _, hb, h => by
    cases h with
    | cons a b =>
      have hb : (x.lowB ρ.length && lowL ρ.length xs) = true := hb
      obtain ⟨h1, h2⟩ := Bool.and_eq_true_iff.mp hb
      exact .cons (RV.cutTo _ _ h1 a) (RVs.cutTo xs _ h2 b)
/-- .. and what stands over ρ has none -/
theorem RV.low : ∀ (x : Val) (v : V), RV K ρ H x v → x.lowB ρ.length = true := by
  intro x
  refine Val.rec (motive_1 := fun x => ∀ (v : V), RV K ρ H x v → x.lowB ρ.length = true) (motive_2 := fun xs => ∀ (vs : List V), RVs K ρ H xs vs → lowL ρ.length xs = true) ?_ ?_ ?_ ?_ ?_ ?_ ?_ ?_ x
  · intro v h; rfl
  · intro b v h; rfl
  · intro b v h; rfl
  · intro b v h; rfl
  · intro xs ih v h
    cases h with
    | tup a b => exact ih _ b
  · intro n v h
    cases h with
    | ref a => exact decide_eq_true (List.getElem?_eq_some_iff.mp a).1
  · intro vs h; rfl
  · intro x xs ih1 ih2 vs h
    cases h with
    | cons a b =>
      show (x.lowB ρ.length && lowL ρ.length xs) = true
      rw [ih1 _ a, ih2 _ b]; rfl
theorem RVs.low : ∀ (xs : List Val) (vs : List V), RVs K ρ H xs vs → lowL ρ.length xs = true
  | [], _, _ => rfl
  | x :: xs, _, h => by
    cases h with
    | cons a b =>
      show (x.lowB ρ.length && lowL ρ.length xs) = true
      rw [RV.low _ _ a, RVs.low _ _ b]; rfl
theorem RVs.length : ∀ {xs : List Val} {vs : List V}, RVs K ρ H xs vs → xs.length = vs.length
  | _, _, .nil => rfl
  | _, _, .cons _ b => by rw [List.length_cons, List.length_cons, RVs.length b]
theorem RVs.get : ∀ {xs : List Val} {vs : List V} {i : Nat} {x : Val}, RVs K ρ H xs vs → xs[i]? = some x → ∃ v, vs[i]? = some v ∧ RV K ρ H x v
  | _, _, i, _, .nil, e => by simp at e
  | _, _, 0, _, .cons a _, e => by simp at e; subst e; exact ⟨_, rfl, a⟩
  | _, _, i + 1, _, .cons _ b, e => by
    obtain ⟨v, h1, h2⟩ := RVs.get (i := i) b (by simpa using e)
    exact ⟨v, by simpa using h1, h2⟩
theorem RVs.append : ∀ {xs ys : List Val} {vs us : List V}, RVs K ρ H xs vs → RVs K ρ H ys us → RVs K ρ H (xs ++ ys) (vs ++ us)
  | _, _, _, _, .nil, h => h
  | _, _, _, _, .cons a b, h => .cons a (b.append h)
theorem RVs.drop : ∀ {xs : List Val} {vs : List V} (n : Nat), RVs K ρ H xs vs → RVs K ρ H (xs.drop n) (vs.drop n)
  | _, _, 0, h => h
  | _, _, _ + 1, .nil => .nil
  | _, _, n + 1, .cons _ b => b.drop n
theorem RVs.reverse : ∀ {xs : List Val} {vs : List V}, RVs K ρ H xs vs → RVs K ρ H xs.reverse vs.reverse
  | _, _, .nil => .nil
  | _, _, .cons a b => by rw [List.reverse_cons, List.reverse_cons]; exact b.reverse.append (.cons a .nil)
theorem RVs.take : ∀ {xs : List Val} {vs : List V} (n : Nat), RVs K ρ H xs vs → RVs K ρ H (xs.take n) (vs.take n)
  | _, _, 0, h => .nil
  | _, _, _ + 1, .nil => .nil
  | _, _, n + 1, .cons a b => .cons a (b.take n)
theorem RVs.set {x : Val} {v : V} (r : RV K ρ H x v) : ∀ {xs : List Val} {vs : List V} (i : Nat), RVs K ρ H xs vs → RVs K ρ H (xs.set i x) (vs.set i v)
  | _, _, _, .nil => .nil
  | _, _, 0, .cons _ t => .cons r t
  | _, _, i + 1, .cons q t => .cons q (RVs.set r i t)
theorem RVs.rep {xs : List Val} {vs : List V} (h : RVs K ρ H xs vs) : ∀ n : Nat, RVs K ρ H (List.replicate n xs).flatten (List.replicate n vs).flatten
  | 0 => .nil
  | n + 1 => by
    rw [List.replicate_succ, List.replicate_succ, List.flatten_cons, List.flatten_cons]
    exact h.append (h.rep n)
theorem RVs.ints : ∀ {xs : List Val} {vs : List V} {ns : List Int}, RVs K ρ H xs vs → allInts xs = some ns → vs = ns.map V.int
  | _, _, ns, .nil, e => by cases e; rfl
  | _, _, ns, .cons a b, e => by
    cases a with
    | int i =>
      rename_i xs vs
      have e : (allInts xs).map (i :: ·) = some ns := e
      cases q : allInts xs with
      | none => rw [q] at e; cases e
      | some ms => rw [q] at e; cases e; rw [RVs.ints b q]; rfl
    | _ => cases e
theorem RVs.bools : ∀ {xs : List Val} {vs : List V} {ns : List Bool}, RVs K ρ H xs vs → allBools xs = some ns → vs = ns.map V.bl
  | _, _, ns, .nil, e => by cases e; rfl
  | _, _, ns, .cons a b, e => by
    cases a with
    | bool i =>
      rename_i xs vs
      have e : (allBools xs).map (i :: ·) = some ns := e
      cases q : allBools xs with
      | none => rw [q] at e; cases e
      | some ms => rw [q] at e; cases e; rw [RVs.bools b q]; rfl
    | _ => cases e
theorem RVs.of_ints : ∀ (ns : List Int), RVs K ρ H (ns.map Val.int) (ns.map V.int)
  | [] => .nil
  | n :: ns => .cons (.int n) (RVs.of_ints ns)
theorem RVs.flat : ∀ {xs : List Val} {vs : List V}, RVs K ρ H xs vs → xs.all flatB = true → vs.all flatV = true
  | _, _, .nil, _ => rfl
  | _, _, .cons a b, h => by
    simp only [List.all_cons, Bool.and_eq_true] at h ⊢
    refine ⟨?_, b.flat h.2⟩
    cases a <;> first | rfl | exact absurd h.1 (by simp [flatB])
theorem RV.flat {x : Val} {v : V} (h : RV K ρ H x v) (f : flatB x = true) : flatV v = true := by
  cases h <;> first | rfl | exact absurd f (by simp [flatB])
theorem RV.flatEq {x y : Val} {v u : V} (h : RV K ρ H x v) (h' : RV K ρ H y u) (f : flatB x = true) (f' : flatB y = true) : eqV v u = Ev.flatEq x y := by
  cases h <;> first | (cases h' <;> first | rfl | cases f') | cases f
theorem RVs.inV {y : Val} {u : V} (h' : RV K ρ H y u) (f' : flatB y = true) : ∀ {xs : List Val} {vs : List V}, RVs K ρ H xs vs → xs.all flatB = true → L2.inV u vs = xs.any fun x => Ev.flatEq x y
  | _, _, .nil, _ => rfl
  | _, _, .cons a b, h => by
    simp only [List.all_cons, Bool.and_eq_true] at h
    have ih := RVs.inV h' f' b h.2
    unfold L2.inV at ih ⊢
    rw [List.any_cons, List.any_cons, ih, RV.flatEq a h' h.1 f']
theorem RVs.countF {y : Val} {u : V} (h' : RV K ρ H y u) (f' : flatB y = true) : ∀ {xs : List Val} {vs : List V}, RVs K ρ H xs vs → xs.all flatB = true → (vs.countP fun z => eqV z u) = xs.countP fun x => Ev.flatEq x y
  | _, _, .nil, _ => rfl
  | _, _, .cons a b, h => by
    simp only [List.all_cons, Bool.and_eq_true] at h
    rw [List.countP_cons, List.countP_cons, RVs.countF h' f' b h.2, RV.flatEq a h' h.1 f']
theorem RVs.isEmpty {xs : List Val} {vs : List V} (h : RVs K ρ H xs vs) : xs.isEmpty = vs.isEmpty := by cases h <;> rfl
theorem RVs.cut {xs : List Val} {vs : List V} (h : RVs K ρ H xs vs) (lo hi : Option Int) : RVs K ρ H (Ev.cut xs lo hi) (cutV vs lo hi) := by
  unfold Ev.cut cutV
  rw [h.length]
  exact (h.drop _).take _
theorem RVs.at_ {xs : List Val} {vs : List V} {i : Int} {x : Val} (h : RVs K ρ H xs vs) (e : L2.atI xs i = some x) : ∃ v, L2.atI vs i = some v ∧ RV K ρ H x v := by
  unfold L2.atI at e ⊢
  rw [← h.length]
  cases q : L2.ixN xs.length i with
  | none => rw [q] at e; cases e
  | some j => rw [q] at e; exact h.get e
end

/-! ### the store -/
section
variable (K : PySem.W.Frag) (ρ : List Addr) (H : Hp)
inductive KVs : List (Sum Int Str × Val) → List (Key × V) → Prop
  | nil : KVs [] []
  | cons {k : Sum Int Str} {x : Val} {v : V} {xs : List (Sum Int Str × Val)} {vs : List (Key × V)} : RV K ρ H x v → KVs xs vs → KVs ((k, x) :: xs) ((k, v) :: vs)
/-- a list that nothing changes -/
def Fro (a : Addr) (vs : List V) : Prop := (∃ o, H a = some (.frz o (.lst vs))) ∨
  ∃ (o : Obj) (its : Array Value) (n : Nat), K.lookup a = some o ∧ o.cls = .type "list" ∧ o.dict = none ∧ o.data = .seq its n ∧ its.size ≤ sizeLine ∧ Vals vs its.toList
/-- an error's fields -/
def FsR (fs : List (Str × Val)) (d : Option Addr) : Prop :=
  match fs with
  | [] => d = none
  | [(f, v)] => ∃ dd u, d = some dd ∧ H dd = some (.xd [(f, u)]) ∧ RV K ρ H v u
  | _ => False
def RC (c : Cell) (a : Addr) : Prop :=
  match c with
  | .lst xs => ∃ vs, H a = some (.lst vs) ∧ RVs K ρ H xs vs
  | .ro xs => ∃ vs, Fro K H a vs ∧ RVs K ρ H xs vs
  | .dict kvs => ∃ ws, H a = some (.dK ws) ∧ KVs K ρ H kvs ws
  | .inst c fs => ∃ (C : Addr) (d : Option Addr), PySem.W.nsIn K mainGlobals c = some (some (.ref C)) ∧ H a = some (exK a (.ref C) d) ∧ FsR K ρ H fs d ∧ (c = "Over" ∨ c ∈ exc0)
def mutB : Cell → Bool
  | .ro _ => false
  | _ => true
structure RS (st : Store) : Prop where
  len : ρ.length = st.length
  sep : ∀ (n m : Nat) (c d : Cell) (a : Addr), st[n]? = some c → st[m]? = some d → mutB c = true → mutB d = true → ρ[n]? = some a → ρ[m]? = some a → n = m
  cell : ∀ (n : Nat) (c : Cell) (a : Addr), st[n]? = some c → ρ[n]? = some a → RC K ρ H c a
end
section
variable {K : PySem.W.Frag} {ρ ρ' : List Addr} {H H' : Hp} {st : Store}
theorem KVs.mono (hx : Ex ρ ρ') (hg : Gr K H H') : ∀ {xs : List (Sum Int Str × Val)} {vs : List (Key × V)}, KVs K ρ H xs vs → KVs K ρ' H' xs vs
  | _, _, .nil => .nil
  | _, _, .cons a b => .cons (RV.mono hx hg _ _ a) (b.mono hx hg)
theorem KVs.length : ∀ {xs : List (Sum Int Str × Val)} {vs : List (Key × V)}, KVs K ρ H xs vs → xs.length = vs.length
  | _, _, .nil => rfl
  | _, _, .cons _ b => by rw [List.length_cons, List.length_cons, b.length]
theorem KVs.val {k : Sum Int Str} : ∀ {xs : List (Sum Int Str × Val)} {vs : List (Key × V)}, KVs K ρ H xs vs →
    (valK xs k = none ∧ valV vs k = none) ∨ ∃ x v, valK xs k = some x ∧ valV vs k = some v ∧ RV K ρ H x v
  | _, _, .nil => .inl ⟨rfl, rfl⟩
  | _, _, .cons (k := k') (x := x) (v := v) (xs := xs) (vs := vs) a b => by
    by_cases e : k' = k
    · exact .inr ⟨x, v, by simp [valK, List.find?_cons, e], by simp [valV, List.find?_cons, e], a⟩
    · have e1 : valK ((k', x) :: xs) k = valK xs k := by simp [valK, List.find?_cons, e]
      have e2 : valV ((k', v) :: vs) k = valV vs k := by simp [valV, List.find?_cons, e]
      rw [e1, e2]
      exact b.val
theorem KVs.any {k : Sum Int Str} : ∀ {xs : List (Sum Int Str × Val)} {vs : List (Key × V)}, KVs K ρ H xs vs → (xs.any fun kv => decide (kv.1 = k)) = vs.any fun kv => decide (kv.1 = k)
  | _, _, .nil => rfl
  | _, _, .cons a b => by rw [List.any_cons, List.any_cons, b.any]
theorem KVs.mapPut {k : Sum Int Str} {x : Val} {v : V} (r : RV K ρ H x v) : ∀ {xs : List (Sum Int Str × Val)} {vs : List (Key × V)}, KVs K ρ H xs vs → KVs K ρ H (xs.map fun kv => if kv.1 = k then (kv.1, x) else kv) (vs.map fun kv => if kv.1 = k then (kv.1, v) else kv)
  | _, _, .nil => .nil
  | _, _, .cons (k := k') a b => by
    rw [List.map_cons, List.map_cons]
    by_cases e : k' = k
    · rw [if_pos (show k' = k from e), if_pos (show k' = k from e)]
      exact .cons r (b.mapPut r)
    · rw [if_neg (show ¬ k' = k from e), if_neg (show ¬ k' = k from e)]
      exact .cons a (b.mapPut r)
theorem KVs.append : ∀ {xs ys : List (Sum Int Str × Val)} {vs us : List (Key × V)}, KVs K ρ H xs vs → KVs K ρ H ys us → KVs K ρ H (xs ++ ys) (vs ++ us)
  | _, _, _, _, .nil, h => h
  | _, _, _, _, .cons a b, h => .cons a (b.append h)
theorem KVs.put {k : Sum Int Str} {x : Val} {v : V} (r : RV K ρ H x v) {xs : List (Sum Int Str × Val)} {vs : List (Key × V)} (h : KVs K ρ H xs vs) : KVs K ρ H (putKV xs k x) (putK vs k v) := by
  unfold putKV putK
  rw [h.any]
  split
  · exact h.mapPut r
  · exact h.append (.cons r .nil)
theorem KVs.merge : ∀ {more : List (Sum Int Str × Val)} {ms : List (Key × V)} {xs : List (Sum Int Str × Val)} {vs : List (Key × V)}, KVs K ρ H more ms → KVs K ρ H xs vs → KVs K ρ H (mergeKV xs more) (mergeK vs ms)
  | _, _, _, _, .nil, h => h
  | (k, x) :: more, (_, v) :: ms, xs, vs, .cons a b, h => show KVs K ρ H (mergeKV (putKV xs k x) more) (mergeK (putK vs k v) ms) from KVs.merge b (h.put a)

theorem FsR.mono {fs : List (Str × Val)} {d : Option Addr} (hx : Ex ρ ρ') (hg : Gr K H H') (h : FsR K ρ H fs d) : FsR K ρ' H' fs d := by
  unfold FsR at h ⊢
  split at h
  · exact h
  · obtain ⟨dd, u, e1, e2, r⟩ := h
    exact ⟨dd, u, e1, hg.xd _ _ e2, RV.mono hx hg _ _ r⟩
  · exact h.elim
theorem RC.mono {c : Cell} {a : Addr} (hx : Ex ρ ρ') (hg : Gr K H H') (ha : H a = H' a ∨ mutB c = false) (hf : ∀ o vs, H a = some (.frz o (.lst vs)) → H' a = some (.frz o (.lst vs))) (h : RC K ρ H c a) : RC K ρ' H' c a := by
  cases c with
  | lst xs =>
    obtain ⟨vs, e, r⟩ := h
    rcases ha with ha | ha
    · exact ⟨vs, ha ▸ e, RVs.mono hx hg _ _ r⟩
    · cases ha
  | ro xs =>
    obtain ⟨vs, e, r⟩ := h
    refine ⟨vs, ?_, RVs.mono hx hg _ _ r⟩
    rcases e with ⟨o, e⟩ | e
    · exact .inl ⟨o, hf _ _ e⟩
    · exact .inr e
  | dict kvs =>
    obtain ⟨vs, e, r⟩ := h
    rcases ha with ha | ha
    · exact ⟨vs, ha ▸ e, r.mono hx hg⟩
    · cases ha
  | inst c fs =>
    obtain ⟨C, d, e1, e2, e3, e4⟩ := h
    exact ⟨C, d, e1, hg.ext _ _ e2, e3.mono hx hg, e4⟩
/-- a cell's address is held -/
theorem RC.some {c : Cell} {a : Addr} (h : RC K ρ H c a) (m : mutB c = true) : H a ≠ none := by
  cases c with
  | lst xs => obtain ⟨vs, e, r⟩ := h; rw [e]; simp
  | ro xs => cases m
  | dict kvs => obtain ⟨vs, e, r⟩ := h; rw [e]; simp
  | inst c fs => obtain ⟨C, d, _, e, _⟩ := h; rw [e]; simp
theorem Gr.new {p : Addr} {o : HO} (h : H p = none) : Gr K H (upd H p o) := ⟨fun a vs s => by
  rcases s with (s | ⟨x, s⟩) | s
  · exact .inl (.inl (by rw [upd_ne (ne_of_none s h)]; exact s))
  · exact .inl (.inr ⟨x, by rw [upd_ne (ne_of_none s h)]; exact s⟩)
  · exact .inr s, fun a φ e => by rw [upd_ne (ne_of_none e h)]; exact e, fun a fs e => by rw [upd_ne (ne_of_none e h)]; exact e⟩
theorem Gr.write {p : Addr} {o u : HO} (h : H p = some u) (h1 : ∀ xs, u ≠ .tup xs) (h2 : ∀ x y, u ≠ .frz x y) (h3 : ∀ φ, u ≠ .ext φ := by intro _ z; cases z) (h4 : ∀ fs, u ≠ .xd fs := by intro _ z; cases z) : Gr K H (upd H p o) := ⟨fun a vs s => by
  rcases s with (s | ⟨x, s⟩) | s
  · exact .inl (.inl (by rw [upd_ne (fun e => by subst e; rw [h] at s; cases s; exact h1 _ rfl)]; exact s))
  · exact .inl (.inr ⟨x, by rw [upd_ne (fun e => by subst e; rw [h] at s; cases s; exact h2 _ _ rfl)]; exact s⟩)
  · exact .inr s, fun a φ e => by rw [upd_ne (fun z => by subst z; rw [h] at e; cases e; exact h3 _ rfl)]; exact e, fun a fs e => by rw [upd_ne (fun z => by subst z; rw [h] at e; cases e; exact h4 _ rfl)]; exact e⟩
/-- a new tuple, or anything that is no cell -/
theorem RS.other {p : Addr} {o : HO} (r : RS K ρ H st) (h : H p = none) : RS K ρ (upd H p o) st := by
  refine ⟨r.len, r.sep, fun n c a e1 e2 => ?_⟩
  have q := r.cell n c a e1 e2
  refine q.mono Ex.refl (Gr.new h) ?_ fun ob vs e => by rw [upd_ne (ne_of_none e h)]; exact e
  cases m : mutB c with
  | false => exact .inr rfl
  | true =>
    left
    rw [upd_ne]
    intro z
    subst z
    exact q.some m h
/-- a new cell -/
theorem RS.alloc {p : Addr} {o : HO} {c : Cell} (r : RS K ρ H st) (h : H p = none) (new : RC K (ρ ++ [p]) (upd H p o) c p) : RS K (ρ ++ [p]) (upd H p o) (st ++ [c]) := by
  have r1 : RS K ρ (upd H p o) st := r.other h
  have out : ∀ (n : Nat) (d : Cell) (a : Addr), (st ++ [c])[n]? = some d → (ρ ++ [p])[n]? = some a → (st[n]? = some d ∧ ρ[n]? = some a) ∨ (n = st.length ∧ d = c ∧ a = p) := fun n d a e1 e2 => by
    by_cases hn : n < st.length
    · rw [List.getElem?_append_left hn] at e1
      rw [List.getElem?_append_left (by rw [r.len]; exact hn)] at e2
      exact .inl ⟨e1, e2⟩
    · have hn2 : n < (st ++ [c]).length := (List.getElem?_eq_some_iff.mp e1).1
      have hn3 : n = st.length := by simp at hn2; omega
      subst hn3
      rw [List.getElem?_append_right (Nat.le_refl _)] at e1
      rw [← r.len, List.getElem?_append_right (Nat.le_refl _)] at e2
      simp at e1 e2
      exact .inr ⟨rfl, e1.symm, e2.symm⟩
  refine ⟨by simp [r.len], fun n m c1 c2 a e1 e2 m1 m2 e3 e4 => ?_, fun n d a e1 e2 => ?_⟩
  · rcases out n c1 a e1 e3 with ⟨x1, x2⟩ | ⟨x1, x2, x3⟩
    · rcases out m c2 a e2 e4 with ⟨y1, y2⟩ | ⟨y1, y2, y3⟩
      · exact r.sep n m c1 c2 a x1 y1 m1 m2 x2 y2
      · subst y3; exact absurd h ((r.cell n c1 a x1 x2).some m1)
    · rcases out m c2 a e2 e4 with ⟨y1, y2⟩ | ⟨y1, y2, y3⟩
      · subst x3; exact absurd h ((r.cell m c2 a y1 y2).some m2)
      · rw [x1, y1]
  · rcases out n d a e1 e2 with ⟨x1, x2⟩ | ⟨x1, x2, x3⟩
    · exact (r1.cell n d a x1 x2).mono ⟨[p], rfl⟩ Gr.refl (.inl rfl) fun _ _ e => e
    · subst x2 x3; exact new
/-- a cell is written -/
theorem RS.write {n : Nat} {a : Addr} {c c' : Cell} {o : HO} (r : RS K ρ H st) (e1 : st[n]? = some c) (e2 : ρ[n]? = some a) (m : mutB c = true) (m' : mutB c' = true) (hg : Gr K H (upd H a o)) (new : RC K ρ (upd H a o) c' a) : RS K ρ (upd H a o) (st.set n c') := by
  have hn : n < st.length := (List.getElem?_eq_some_iff.mp e1).1
  have out : ∀ (k : Nat) (d : Cell), (st.set n c')[k]? = some d → (k = n ∧ d = c') ∨ (k ≠ n ∧ st[k]? = some d) := fun k d e => by
    by_cases hk : k = n
    · subst hk; rw [List.getElem?_set_self hn] at e; cases e; exact .inl ⟨rfl, rfl⟩
    · rw [List.getElem?_set_ne (Ne.symm hk)] at e; exact .inr ⟨hk, e⟩
  refine ⟨by rw [r.len, List.length_set], fun k j c1 c2 b x1 x2 m1 m2 y1 y2 => ?_, fun k d b x1 x2 => ?_⟩
  · rcases out k c1 x1 with ⟨z1, z2⟩ | ⟨z1, z2⟩
    · rcases out j c2 x2 with ⟨w1, w2⟩ | ⟨w1, w2⟩
      · rw [z1, w1]
      · subst z1; exact r.sep k j c c2 b e1 w2 m m2 y1 y2
    · rcases out j c2 x2 with ⟨w1, w2⟩ | ⟨w1, w2⟩
      · subst w1; exact r.sep k j c1 c b z2 e1 m1 m y1 y2
      · exact r.sep k j c1 c2 b z2 w2 m1 m2 y1 y2
  · rcases out k d x1 with ⟨z1, z2⟩ | ⟨z1, z2⟩
    · subst z1 z2; rw [e2] at x2; cases x2; exact new
    · have q := r.cell k d b z2 x2
      cases md : mutB d with
      | false =>
        refine q.mono Ex.refl hg (.inr md) fun ob vs e => ?_
        rw [upd_ne]
        · exact e
        · intro z; subst z
          have q2 := r.cell n c b e1 e2
          cases c with
          | lst xs => obtain ⟨_, e', _⟩ := q2; rw [e] at e'; cases e'
          | ro xs => cases m
          | dict xs => obtain ⟨_, e', _⟩ := q2; rw [e] at e'; cases e'
          | inst _ _ => obtain ⟨_, _, _, e', _⟩ := q2; rw [e] at e'; cases e'
      | true =>
        have hb : b ≠ a := fun z => by subst z; exact z1 (r.sep k n d c b z2 e1 md m x2 e2)
        exact q.mono Ex.refl hg (.inl (by rw [upd_ne hb])) fun ob vs e => by rw [upd_ne hb]; exact e
theorem RS.at_ {n : Nat} {c : Cell} {a : Addr} (r : RS K ρ H st) (e1 : st[n]? = some c) (e2 : ρ[n]? = some a) : RC K ρ H c a := r.cell n c a e1 e2
/-- a list in the store, to be read -/
theorem RS.list {n : Nat} {xs : List Val} {a : Addr} (r : RS K ρ H st) (e1 : listAt st n = some xs) (e2 : ρ[n]? = some a) : ∃ vs, SqL K H a vs ∧ RVs K ρ H xs vs := by
  unfold listAt at e1
  split at e1
  · cases e1
    obtain ⟨vs, h, q⟩ := r.cell n _ a (by assumption) e2
    exact ⟨vs, SqL.of h, q⟩
  · cases e1
    obtain ⟨vs, h, q⟩ := r.cell n _ a (by assumption) e2
    refine ⟨vs, ?_, q⟩
    rcases h with ⟨o, h⟩ | h
    · exact .inl (.inr ⟨o, h⟩)
    · exact .inr h
  · cases e1
end

/-! ### names -/
structure RE (K : PySem.W.Frag) (ρ : List Addr) (H : Hp) (env : Env) (σ : L2.St) : Prop where
  len : env.length = σ.length
  at_ : ∀ (i : Nat) (v : Val), env[i]? = some (some v) → ∃ u, σ[i]? = some (some u) ∧ RV K ρ H v u
section
variable {K : PySem.W.Frag} {ρ ρ' : List Addr} {H H' : Hp} {env : Env} {σ : L2.St}
theorem RE.mono (r : RE K ρ H env σ) (hx : Ex ρ ρ') (hg : Gr K H H') : RE K ρ' H' env σ :=
  ⟨r.len, fun i v e => let ⟨u, a, b⟩ := r.at_ i v e; ⟨u, a, RV.mono hx hg _ _ b⟩⟩
theorem RE.set {i : Nat} {v : Val} {u : V} (r : RE K ρ H env σ) (h : RV K ρ H v u) : RE K ρ H (env.set i (some v)) (σ.set i (some u)) := by
  refine ⟨by rw [List.length_set, List.length_set, r.len], fun j w e => ?_⟩
  by_cases hj : i = j
  · subst hj
    have hi : i < env.length := by
      have := (List.getElem?_eq_some_iff.mp e).1
      simpa using this
    rw [List.getElem?_set_self hi] at e
    cases e
    exact ⟨u, List.getElem?_set_self (by rw [← r.len]; exact hi), h⟩
  · rw [List.getElem?_set_ne hj] at e ⊢
    exact r.at_ j w e
theorem RE.wipe {is : List Nat} {σ' : L2.St} (r : RE K ρ H env σ) : ∀ (is : List Nat), (∀ i ∈ is, ∀ v, env[i]? ≠ some (some v)) → RE K ρ H env (L2.wipe σ is)
  | [], _ => r
  | i :: is, h => by
    have q := RE.wipe (σ' := σ') (is := is) r is fun j hj => h j (List.mem_cons_of_mem _ hj)
    refine ⟨by show env.length = ((L2.wipe σ is).set i none).length; rw [List.length_set]; exact q.len, fun j v e => ?_⟩
    obtain ⟨u, a, b⟩ := q.at_ j v e
    refine ⟨u, ?_, b⟩
    show ((L2.wipe σ is).set i none)[j]? = _
    rw [List.getElem?_set_ne (fun z => by subst z; exact h _ List.mem_cons_self v e)]
    exact a
theorem RE.start {args : List Val} {vs : List V} (N : List Str) (h : RVs K ρ H args vs) : RE K ρ H (args.map some ++ List.replicate (N.length - args.length) none) (L2.start N vs) := by
  have hl := h.length
  refine ⟨by unfold L2.start; simp [hl], fun i v e => ?_⟩
  by_cases hi : i < args.length
  · rw [List.getElem?_append_left (by simpa using hi), List.getElem?_map] at e
    cases q : args[i]? with
    | none => rw [q] at e; cases e
    | some x =>
      rw [q] at e; cases e
      obtain ⟨u, a, b⟩ := h.get q
      refine ⟨u, ?_, b⟩
      unfold L2.start
      rw [List.getElem?_append_left (by simpa [← hl] using hi), List.getElem?_map, a]; rfl
  · rw [List.getElem?_append_right (by simpa using hi), List.getElem?_replicate] at e
    split at e <;> cases e
end

/-! ### data, for == -/
section
variable {K : PySem.W.Frag} {ρ : List Addr} {H : Hp} {st : Store}
theorem toD_all {st : Store} (r : RS K ρ H st) {k : Nat} (ih : ∀ (x : Val) (v : V) (d : PyData), RV K ρ H x v → toD st k x = some d → Dp K H v d) :
    ∀ (xs : List Val) (vs : List V) (ds : List PyData), RVs K ρ H xs vs → xs.mapM (toD st k) = some ds → DpAll K H vs ds
  | [], _, ds, .nil, e => by
    have : ds = [] := by simpa using e.symm
    subst this; exact .nil
  | x :: xs, _, ds, .cons a b, e => by
    rw [List.mapM_cons] at e
    cases q : toD st k x with
    | none => rw [q] at e; cases e
    | some d =>
      rw [q] at e
      cases q2 : xs.mapM (toD st k) with
      | none => rw [q2] at e; cases e
      | some es =>
        rw [q2] at e
        cases e
        exact .cons (ih _ _ _ a q) (toD_all r ih xs _ es b q2)
theorem toD_dp (r : RS K ρ H st) : ∀ (k : Nat) (x : Val) (v : V) (d : PyData), RV K ρ H x v → toD st k x = some d → Dp K H v d := by
  intro k
  induction k with
  | zero =>
    intro x v d h e
    cases h with
    | none => cases e; exact .non
    | bool b => cases e; exact .bl b
    | int i => cases e; exact .int i
    | str s => cases e; exact .str s
    | tup a b => cases e
    | ref a => cases e
  | succ k ih =>
    intro x v d h e
    cases h with
    | none => cases e; exact .non
    | bool b => cases e; exact .bl b
    | int i => cases e; exact .int i
    | str s => cases e; exact .str s
    | @tup xs a vs hs b =>
      have e : (xs.mapM (toD st k)).map PyData.tuple = some d := e
      cases q : xs.mapM (toD st k) with
      | none => rw [q] at e; cases e
      | some ds => rw [q] at e; cases e; exact .tup hs (toD_all r ih xs vs ds b q)
    | @ref n a hn =>
      have e : ((listAt st n).bind fun xs => (xs.mapM (toD st k)).map PyData.list) = some d := e
      cases q0 : listAt st n with
      | none => rw [q0] at e; cases e
      | some xs =>
        rw [q0] at e
        have e : (xs.mapM (toD st k)).map PyData.list = some d := e
        obtain ⟨vs, hs, b⟩ := r.list q0 hn
        cases q : xs.mapM (toD st k) with
        | none => rw [q] at e; cases e
        | some ds => rw [q] at e; cases e; exact .lst hs (toD_all r ih xs vs ds b q)
end
end Ev
/-! ## Errors: caught and kept -/
namespace L2
open PySem PySem.Spec PyProof.Rows
section
variable {X : Cx} {pins : List (Addr × Obj)} {σ : St} {H : Hp} {s : Shared}
/-- an error that was raised behind the entry is tracked from now on -/
theorem Inv.hold {a : Addr} {cls : Value} {d : Option Addr} {oe : Obj} {vs : Array Value} (I : Inv X pins σ H s) (ha : s.heap.get? a = some oe) (hz : Zc cls d oe) (hd : oe.data = .fields vs) (na : H a = none) (h0 : X.s_0.heap.get? a = none) (hL : a ≠ X.env.locals) (hc : ∀ x c, X.env.cells.lookup x = some c → c ≠ a) (hp : ∀ p ∈ X.pn ++ pins, p.1 ≠ a) : Inv X pins σ (upd H a (Ev.exK a cls d)) s := by
  have hok : HOk X.prog X.w (upd H a (Ev.exK a cls d)) s.heap := I.hok.laidN (fun _ _ q => q) na ⟨⟨oe, vs, ha, hz, hd⟩, ⟨oe, ha⟩, fun _ _ ⟨o, v, q, r⟩ k => ⟨o, v, k o q, r⟩⟩
  have un : Un X.fs X.ex X.H_0 (upd H a (Ev.exK a cls d)) X.s_0.heap s.heap :=
    { keep := I.base.keep
      slot := I.base.slot
      free := fun b o q n x => by
        rw [upd_ne (fun z => by rw [z, h0] at q; cases q)]
        exact I.base.free b o q n x
      there := I.base.there
      tups := fun b xs q => by
        have := I.base.tups b xs q
        rw [upd_ne (ne_of_none this na)]; exact this
      frzs := fun b o u q => by
        have := I.base.frzs b o u q
        rw [upd_ne (ne_of_none this na)]; exact this
      tbls := fun b ps q => by
        obtain ⟨more, e⟩ := I.base.tbls b ps q
        exact ⟨more, by rw [upd_ne (ne_of_none e na)]; exact e⟩ }
  exact ⟨I.ok, I.os, I.bare, un, I.loc, I.cell, by rw [upd_ne (Ne.symm hL)]; exact I.free, fun x c e => by rw [upd_ne (hc x c e)]; exact I.freeC x c e, fun p q => by
    obtain ⟨h1, h2, h3⟩ := I.pin p q
    exact ⟨h1, by rw [upd_ne (hp p q)]; exact h2, h3⟩, hok, I.len⟩
end
/-- what 'except x as n: m = n' wishes: slot i is n's, slot j is m's -/
def wKeep (K : PySem.W.Frag) (c : Value) (i j : Nat) (D : Ends) : WX := fun cls d σ H =>
  PySem.W.exmOne K cls c = some true ∧ ∀ a, H a = none → D.nx (((σ.set i (some (.ref a))).set j (some (.ref a))).set i none) (upd H a (Ev.exK a cls d))
section
variable {X : Cx} {x n m : Str} {c : Value} {i j : Nat} {body : List Stmt} {np np2 np3 pos pos' pos2 : Pos} {tb : WX → TS}
theorem ps_try_keep (hs : X.stack = X.env :: X.outer) (hf : X.env.frame = some X.env.locals) (hN : X.N.Nodup) (hi : X.N[i]? = some n) (hj : X.N[j]? = some m) (hln : X.env.kindOf n = some .local) (hlm : X.env.kindOf m = some .local) (hc : Names X x c) (hex : X.ex = [])
    (hb : ∀ (W : WX) (pn : List (Addr × Obj)) (xe : Value → Shared → Prop), Takes (X.tr pn xe) W → PassesOwn (model X.prog X.w) X.A X.env xe → PSs (X.tr pn xe) body (tb W))
    (hsu : ∀ (a : Addr) (oe : Obj) (pn : List (Addr × Obj)), PSs (X.suite a ((a, oe) :: pn)) [.Assign [.Name m np2] (.Name n np3) pos2] (fun D σ H => σ[i]? = some (some (.ref a)) ∧ D.nx (σ.set j (some (.ref a))) H)) :
    PS X (.Try body [.ExceptHandler (some (.Name x np)) (some n) [.Assign [.Name m np2] (.Name n np3) pos2] pos'] [] [] pos) (fun D σ H => tb (wKeep X.K c i j D) D σ H) := by
  refine ⟨fun pins s σ H D I h => ?_⟩
  have ok := I.ok
  have hfr : X.A.frames = some (X.env :: X.outer) := by rw [ok.frames, hs]
  have hloc : Loc X.env.scope n := .inl hln
  refine wpAny_Try_except ?_
  refine wpAny_mono ((hb (wKeep X.K c i j D) (X.pn ++ pins) (fun e s₁ => wpAny (model X.prog X.w) X.A (noteFrame e X.env) (fun _ s₂ => wpAny (model X.prog X.w) X.A (setFlight e none) (fun _ s₃ =>
    wpAny (model X.prog X.w) X.A (handleBy e X.env [.ExceptHandler (some (.Name x np)) (some n) [.Assign [.Name m np2] (.Name n np3) pos2] pos']) (SP X pins D) X.xe s₃) X.xe s₂) X.xe s₁) (fun u s' xx => ?_) PassesOwn.looking).run [] s σ H D (I.toTry _) h) (fun f s1 hsp => ?_) (fun e s1 he => he)
  · -- the catch
    obtain ⟨a, B, sI, pins', σ', H', cls, d, rfl, J', nb, up, sky, na, os, ag, hb1, hyes⟩ := xx
    have J : Inv X pins σ' H' sI := J'.ofTry ok
    have sky' : Sky B (X.env :: X.outer) a (Zc cls d) X.env.locals s'.heap := by rw [← hs]; exact sky
    show wpAny (model X.prog X.w) X.A (noteFrame (.ref a) X.env) _ _ _
    refine Sky.land Zc.steady hfr hf sky' fun h3 fl3 up3 => ?_
    have J3 : Inv X pins σ' H' { s' with heap := h3 } := J.landed nb fl3.1 (up.trans up3) os ag
    obtain ⟨oe3, vs3, he3, hz3, hd3⟩ := fl3.there
    have notFr : ∀ {h : Heap} {o : Obj} {vs : Array Value}, h.FunFrames B (X.env :: X.outer) → h.get? a = some o → o.data = .fields vs → a ∉ frs (X.env :: X.outer) := fun {h o vs} ff e dd hm => by
      obtain ⟨_, o', e', hnf⟩ := ff.mem hm
      rw [e] at e'; cases e'
      exact hnf _ dd
    have nfr := notFr fl3.2.2.1 he3 hd3
    have nL : a ≠ X.env.locals := fun z => nfr (List.mem_filterMap.mpr ⟨X.env, List.mem_cons_self, by rw [hf, z]⟩)
    have nF : a ∉ X.fs := fun hm => by
      obtain ⟨e, he, q⟩ := List.mem_filterMap.mp hm
      exact nfr (List.mem_filterMap.mpr ⟨e, List.mem_cons_of_mem _ he, q⟩)
    -- new behind the entry
    have naB : B.get? a = none := fl3.2.1
    have nI : sI.heap.get? a = none := by
      cases q : sI.heap.get? a with
      | none => rfl
      | some o =>
        have := nb a o q (by rw [hs]; exact nfr)
        rw [naB] at this; cases this
    have n0 : X.s_0.heap.get? a = none := by
      cases q : X.s_0.heap.get? a with
      | none => rfl
      | some o =>
        obtain ⟨o', e⟩ := J.base.there a o q (by rw [hex]; exact List.not_mem_nil)
        rw [nI] at e; cases e
    have nC : ∀ x c, X.env.cells.lookup x = some c → c ≠ a := fun x c e z => by
      obtain ⟨v, hv⟩ := J.cell x c e
      obtain ⟨o, ho, _⟩ := hv
      rw [z, nI] at ho; cases ho
    have nP : ∀ p ∈ X.pn ++ pins, p.1 ≠ a := fun p hp z => by
      have := (J.pin p hp).1
      rw [z, nI] at this; cases this
    have S3 := J3.suite he3 hd3 na nL nF
    refine wpAny_handleBy_cons (codeAny_handlers_test ?_) (by intro q; cases q)
    have LT : PySem.W.Looks (model X.prog X.w) h3 (typeOf (.ref a)) cls := fun A Q E s k q => wpAny_typeOf_ref (k _ _ he3) (by rw [hz3.1]; exact q)
    have LM := PySem.W.exm_one (M := model X.prog X.w) (J3.kIn) LT hb1
    have test : ∀ {Q : Value → Shared → Prop} {E : Value → Shared → Prop}, Q c { s' with heap := h3 } → wpAny (model X.prog X.w) (X.A.mark (some (.ref a))) (eval (.Name x np) X.env) Q E { s' with heap := h3 } := fun {Q E} q => by
      obtain ⟨hg, hdbg, hm | ⟨hm, hv, hnn⟩⟩ := hc
      · exact ld_glob (X := X.suite a ((a, oe3) :: (X.pn ++ pins))) S3 hg hm q hdbg
      · exact ld_blt (X := X.suite a ((a, oe3) :: (X.pn ++ pins))) S3 hg hm hv q hnn hdbg
    refine test (LM.here ?_)
    refine codeAny_handlers_suite_as ?_
    refine HandSPX.lands_againZ fl3 fun h4 fl4 up4 => ?_
    have J4 : Inv X pins σ' H' { s' with heap := h4 } := J.landed nb fl4.1 ((up.trans up3).trans up4) os ag
    obtain ⟨oe4, vs4, he4, hz4, hd4⟩ := fl4.there
    have S4 := J4.suite he4 hd4 na nL nF
    refine store_ok (X := X.suite a ((a, oe4) :: (X.pn ++ pins))) (v := .ref a) S4 hN hi hloc rfl (fun s5 S5 => ?_) (.inr hln)
    have hlt : i < σ'.length := by
      rw [J.len]
      exact (List.getElem?_eq_some_iff.mp hi).1
    refine wpAny_mono ((hsu a oe4 (X.pn ++ pins)).run [] s5 _ H' { nx := fun σ6 H6 => H6 = H' ∧ σ6 = (σ'.set i (some (.ref a))).set j (some (.ref a)), rt := fun _ _ => False, bk := fun _ _ => False, ct := fun _ _ => False } S5 ⟨List.getElem?_set_self hlt, rfl, rfl⟩) (fun f s6 hsp => ?_) (fun _ _ z => False.elim z)
    cases f with
    | next =>
      obtain ⟨σ6, H6, S6, e6, e6'⟩ := hsp
      subst e6 e6'
      refine gone_ok (X := X.suite a ((a, oe4) :: (X.pn ++ pins))) S6 hN hi hln fun s7 S7 => ?_
      obtain ⟨p1, p2, _⟩ := S7.pin (a, oe4) (List.mem_append_left _ List.mem_cons_self)
      have J7 : Inv X pins _ _ s7 := S7.unsuite ok
      exact ⟨_, _, J7.hold p1 hz4 hd4 p2 n0 nL nC nP, hyes a na⟩
    | brk =>
      obtain ⟨σ6, H6, S6, q6⟩ := hsp
      exact q6.elim
    | cont =>
      obtain ⟨σ6, H6, S6, q6⟩ := hsp
      exact q6.elim
    | ret u =>
      obtain ⟨v6, σ6, H6, S6, r6, q6⟩ := hsp
      exact q6.elim
  · cases f with
    | next =>
      obtain ⟨σ', H', J', q⟩ := hsp
      exact wpAny_execs_nil ⟨σ', H', J'.ofTry ok, q⟩
    | brk =>
      obtain ⟨σ', H', J', q⟩ := hsp
      exact ⟨σ', H', J'.ofTry ok, q⟩
    | cont =>
      obtain ⟨σ', H', J', q⟩ := hsp
      exact ⟨σ', H', J'.ofTry ok, q⟩
    | ret u =>
      obtain ⟨v, σ', H', J', r, q⟩ := hsp
      exact ⟨v, σ', H', J'.ofTry ok, r, q⟩
end
end L2

/-! ## Over: an own error with a field of its own (the block of the worked proof 42, turned to Over and at) -/
namespace PySem
namespace OverX
open PySem.W PySem.Calls PyProof.Rows PySem.HandSPX
/-! ### the text of __init__ -/
/-- what the written part says of Low, at C, and of its __init__, at fI -/
structure OverTxt (K : Frag) (mg : Str → Option Value) (C fI : Addr) : Prop where
  gC : mg "Over" = some (.ref C)
  cls : ∃ nm q N bs bm sn sub ab col dd k0 k1 k2 k3 k5, K.lookup C = some (excClassObj nm q C N bs bm true sn sub ab col dd k0 k1 k2 k3 k5 "ValueError.__new__") ∧ refsVE bm = true
  sa : findIn K (.ref C) "__setattr__" = some (some (.builtin "object.__setattr__"))
  ga : findIn K (.ref C) "__getattribute__" = some (some (.builtin "BaseException.__getattribute__"))
  gg : findIn K (.ref C) "__getattr__" = some none
  noN : findIn K (.ref C) "at" = some none
  iC : findIn K (.ref C) "__init__" = some (some (.ref fI))
  tC : typeIn K (.ref fI) = some (.type "function")
  kC : keepIn K (.ref C) = true
  exC : subIn K (.ref C) (.type "BaseException") = some true
  tyC : typeIn K (.ref C) = some (.type "type")
  hdC : hasDictIn K C = true
  te : exmOne K (.ref C) (.ref C) = some true
  fn : ∃ (oc : Value) (od : Option Addr) (kV doc pm : Value) (an : Option Addr) (cdv ct : Value) (osl : Array (Option Value)) (p1 p2 q1 q2 q3 q4 : Pos),
    K.lookup fI = some ⟨oc, od, .func (fnOf "__init__" "Over.__init__" (iA p1 p2) (iB q1 q2 q3 q4) iS .none kV doc pm an cdv ct), osl⟩ ∧ codeIn K cdv "Over.__init__" = true
theorem one_size (v : Value) : [v].length ≤ sizeLine := by
  rw [sizeLine_eq]
  exact (by decide : 1 ≤ 16777216)
theorem kept_but {K : Frag} {h h' : Heap} {x : Addr} (X : K.In h) (hx : K.lookup x = none) (k : ∀ b o, b ≠ x → h.get? b = some o → h'.get? b = some o) : K.In h' := fun a o e =>
  k a o (fun z => by rw [z, hx] at e; cases e) (X a o e)
theorem ldC {M : Model} {s : Shared} {name : Str} {scope : Scope} {L a : Addr} {cd : Value} {m : Str → Option Value} {x : Str} {pos : Pos} {v : Value} {Q : Value → Shared → Prop} {A : Around} {E : Value → Shared → Prop} (hn : s.heap.Ns L m) (hv : m x = some v) (h : Q v s)
    (hk : scope.kind = .function := by rfl) (hl : (envOfC name scope L a cd).kindOf x = some .local := by rfl) (hd : (x == ("__debug__" : Str)) = false := by decide) :
    wpAny M A (eval (.Name x pos) (envOfC name scope L a cd)) Q E s := wpAny_Name (wpAny_loadName_local hk hl hn hv h) hd
/-- what __init__ leaves of a fresh exception at x -/
structure InitEnd (h h' : Heap) (x C dx t1 : Addr) (v : Value) : Prop where
  keep : ∀ b o, b ≠ x → h.get? b = some o → h'.get? b = some o
  obj : h'.get? x = some { cls := .ref C, dict := some dx, data := .fields #[.ref t1, .none, .none, .none, .bool false, .none] }
  dbig : h.objs.size ≤ dx
  dne : dx ≠ x
  ns : h'.Ns1 dx (fun y => if y = "at" then some v else none)
/-- a made Low -/
structure OwnMade (h h' : Heap) (e C d : Addr) (v : Value) : Prop where
  keep : ∀ b o, h.get? b = some o → h'.get? b = some o
  new : h.objs.size ≤ e
  obj : ∃ oe vs, h'.get? e = some oe ∧ oe.cls = .ref C ∧ oe.dict = some d ∧ oe.data = .fields vs ∧ vs[1]? = some .none
  dbig : h.objs.size ≤ d
  dne : d ≠ e
  ns : h'.Ns1 d (fun y => if y = "at" then some v else none)
section
variable {prog : Program} {w : World} {A : Around} {E : Value → Shared → Prop} {R : Result → Shared → Prop} {s : Shared} {K : Frag} {mg : Str → Option Value} {C fI : Addr}
theorem over_init (T : OverTxt K mg C fI) {x t0 : Addr} {v : Value} (X : K.In s.heap) (hlim : s.heap.NoLimit) (hx : s.heap.get? x = some (excO C t0)) (hnx : K.lookup x = none) (hroom : A.depth < recursionLimit)
    (hq : ∀ h' tk dx, InitEnd s.heap h' x C dx t0 v → R (.ok (.ret .none)) { s with heap := h', toks := tk }) :
    codeAny (model prog w) A (.call (.ref fI) ⟨[.ref x, v], []⟩) R s := by
  obtain ⟨oc, od, kV, doc, pm, an, cdv, ct, osl, p1, p2, q1, q2, q3, q4, ho, hcd⟩ := T.fn
  obtain ⟨nm, q, N, bs, bm, sn, sub, ab, col, dd, k0, k1, k2, k3, k5, hC, hbm⟩ := T.cls
  have hcl : clsIn K C = some { name := nm, bases := bs, mro := .ref C :: bm, ns := N, qualname := q, hasDict := true, slotNames := sn, subclasses := sub, abstract := ab, collection := col, hasDel := false } := by unfold clsIn; rw [hC] <;> rfl
  refine Att.call_fn (binds := [("self", .ref x), ("at", v)]) X hlim ho hcd hroom (BindsTo.of_eq (by first | rfl | with_unfolding_all rfl)) (by first | rfl | decide | with_unfolding_all rfl) (fun s₁ IC => ?_) rfl rfl rfl
  obtain ⟨h₁, tk₁, rfl⟩ := IC.toInCall.same
  have k : ∀ b o, s.heap.get? b = some o → h₁.get? b = some o := IC.toInCall.keep
  have hn := IC.toInCall.ns
  have hxL : s.heap.objs.size ≠ x := Nat.ne_of_gt (Heap.lt_size hx)
  have X₁ : K.In h₁ := X.keeps k
  have hx₁ := k _ _ hx
  -- self.by = by
  show wpAny _ _ (execs _ _) _ _ _
  refine wpAny_execs_cons (plainObj_wpAny_Assign_Attribute ?_)
  refine ldC (v := v) hn (by first | rfl | with_unfolding_all rfl | kernel_rfl) (ldC (v := .ref x) hn (by first | rfl | with_unfolding_all rfl | kernel_rfl) ?_)
  refine set_plain X₁ (ox := excO C t0) (od := none) ⟨hx₁, rfl, rfl, trivial⟩ T.sa ?_
  refine exc_osa X₁ hx₁ hcl (show refsVE (.ref C :: bm) = true from hbm) rfl T.noN (fun h₃ tk₃ dx k₃ dn dne hx₃ hn₃ => ?_)
  show wpAny _ _ (execs _ _) _ _ _
  have z : s.heap.objs.size < h₁.objs.size := hn.lt
  exact wpAny_execs_nil (hq h₃ tk₃ dx ⟨fun b o hb e => k₃ b o hb (k b o e), hx₃, Nat.le_of_lt (Nat.lt_of_lt_of_le z dn), dne, hn₃⟩)
theorem over_made (T : OverTxt K mg C fI) {v : Value} (X : K.In s.heap) (hlim : s.heap.NoLimit) (hroom : A.depth + 1 < recursionLimit)
    (hq : ∀ h' tk e d, OwnMade s.heap h' e C d v → R (.ok (.ret (.ref e))) { s with heap := h', toks := tk }) :
    codeAny (model prog w) A (.call (.ref C) ⟨[v], []⟩) R s := by
  obtain ⟨nm, q, N, bs, bm, sn, sub, ab, col, dd, k0, k1, k2, k3, k5, hC, hbm⟩ := T.cls
  obtain ⟨hp, g, dr, tk, os⟩ := s
  have k : ∀ b o, hp.get? b = some o → ((hp.push (kdv_tup [v])).push (excO C hp.objs.size)).get? b = some o := fun b o e => Heap.get?_push_of_some _ (Heap.get?_push_of_some _ e)
  have hget : ((hp.push (kdv_tup [v])).push (excO C hp.objs.size)).get? (hp.objs.size + 1) = some (excO C hp.objs.size) := by heap_get
  have hnx : K.lookup (hp.objs.size + 1) = none := by
    cases e : K.lookup (hp.objs.size + 1) with
    | none => rfl
    | some o =>
      have z : hp.get? (hp.objs.size + 1) = some o := X _ _ e
      exact absurd (Nat.lt_of_succ_lt (Heap.lt_size z)) (Nat.lt_irrefl _)
  refine call_own F.excBase_ValueError (fun X => refsVE_contains X bm hbm) (X _ _ hC) (looks_findIn X T.iC) (fun self => bind_fn X self T.tC) (one_size v) ?_
  refine over_init (s := ⟨(hp.push (kdv_tup [v])).push (excO C hp.objs.size), g, dr, tk, os⟩) T (X.keeps k) (hlim.keeps k) hget hnx ?_ fun h' tk' dx ⟨k', hx, dn, dne, hns⟩ => ?_
  · show A.depth + 1 < recursionLimit
    exact hroom
  · have old : ∀ b o, hp.get? b = some o → h'.get? b = some o := fun b o e => k' b o (Nat.ne_of_lt (Nat.lt_succ_of_lt (Heap.lt_size e))) (k b o e)
    have z : hp.objs.size + 1 + 1 ≤ dx := by
      first
        | (simpa only [Heap.size_push] using dn)
        | exact dn
        | (have q := dn; rw [Heap.size_push, Heap.size_push] at q; exact q)
    exact ⟨rfl, hq h' tk' (hp.objs.size + 1) dx ⟨old, Nat.le_succ _, ⟨_, _, hx, rfl, rfl, rfl, rfl⟩, Nat.le_trans (Nat.le_trans (Nat.le_succ _) (Nat.le_succ _)) z, dne, hns⟩⟩
end
end OverX
end PySem
namespace L2
open PySem PySem.Spec PyProof.Rows
theorem relO_low {v : V} {v' : Value} (r : RelV v v') (f : Str) : RelO (List.lookup f [(("at" : Str), v)]) (if f = "at" then some v' else none) := by
  by_cases hw : f = "at"
  · subst hw
    rw [if_pos rfl]
    have q : List.lookup ("at" : Str) [(("at" : Str), v)] = some v := by simp [List.lookup]
    rw [q]
    exact r
  · rw [if_neg hw]
    have qw : (f == ("at" : Str)) = false := by simpa using hw
    have q2 : List.lookup f [(("at" : Str), v)] = none := by simp [List.lookup, qw]
    rw [q2]
    trivial
section
variable {X : Cx} {C fI : Addr}
/-- Low(e) -/
def tMkOver (C : Addr) (ta : TA) : St → Hp → XK → Prop := fun σ H Q => ta σ H fun vs H1 => ∃ v, vs = [v] ∧ ∀ d, H1 d = none → Q (.ref C) (some d) (upd H1 d (.xd [(("at" : Str), v)]))
theorem pmk_over {a : Expr} {ta : TA} {p pos : Pos} {k : Nat} (T : PySem.OverX.OverTxt X.K X.mg C fI) (hr : Room k X.A) (ha : PA X [a] ta) (hg : Gl X "Over" := by rfl)
    (he : starEach (a :: []) X.env = (false, eval a X.env) :: starEach [] X.env := by rfl) (hpl : (backTo pos (starEach [] X.env)).any (·.1) = false := by rfl) :
    PMk X (.Call (.Name "Over" p) [a] [] pos) (tMkOver C ta) := by
  intro pins s σ H Q I h
  refine wpAny_Call_Name_kw (ld_glob I hg T.gC ?_)
  refine PySem.W.callWith_K (h₀ := X.base) I.ok.mod.kin T.kC (thn (ha.run pos pins s σ H _ I h) fun us s1 hh => ?_) he hpl
  obtain ⟨vs, H1, I1, r1, v, ev, q1⟩ := hh
  subst ev
  refine ⟨I1.kIn, ?_⟩
  cases r1 with
  | cons rv rn =>
    rename_i v' us'
    cases rn
    show wpAny _ _ (call (.ref C) [v']) _ _ _
    have hlim := I1.nolimit
    obtain ⟨hp, g, dr, tk, os⟩ := s1
    refine wpAny_call (PySem.OverX.over_made T I1.kIn hlim (by have := hr.dp; omega) fun h' tk' e d M => ?_)
    show MkP X pins σ Q (.ref e) ⟨h', g, dr, tk', os⟩
    obtain ⟨oe, fv, hoe, hc, hd, hdat, h1⟩ := M.obj
    have hns := M.ns
    obtain ⟨G', g1, g2⟩ := restrict h' fun b => decide (b ≠ e)
    have gk : ∀ b, b ≠ e → G'.get? b = h'.get? b := fun b hb => g1 b (decide_eq_true hb)
    have ge : G'.get? e = none := g2 e (by simp)
    have old : ∀ b o, hp.get? b = some o → G'.get? b = some o := fun b o q => (gk b (Nat.ne_of_lt (Nat.lt_of_lt_of_le (Heap.lt_size q) M.new))).trans (M.keep b o q)
    have ob : ObjOk X.prog X.w (upd H1 d (.xd [(("at" : Str), v)])) G' d (.xd [(("at" : Str), v)]) :=
      ⟨_, hns.at (fun o q => (gk d M.dne).trans q), fun f => relO_low rv f⟩
    have J : Inv X pins σ (upd H1 d (.xd [(("at" : Str), v)])) ⟨G', g, dr, tk', os⟩ := I1.laid (t' := tk') old M.dbig ob
    refine ⟨e, oe, fv, ⟨G', g, dr, tk', os⟩, _, .ref C, some d, rfl, J, fun b o q => ?_, ge, hoe, ⟨hc, hd⟩, hdat, h1, ?_, rfl, I1.bare, raises_own T.exC T.tyC, q1 d (I1.hok.fresh M.dbig)⟩
    · by_cases hb : b = e
      · have q' : G'.get? b = some o := q
        rw [hb, ge] at q'; cases q'
      · exact (gk b hb).symm.trans q
    · rw [upd_ne (Ne.symm M.dne)]
      exact I1.hok.fresh M.new
/-- raise Low(e) -/
def tRaiseOver (C : Addr) (W : WX) (ta : TA) : TS := fun _ σ H => tMkOver C ta σ H fun cls d H' => W cls d σ H'
theorem ps_raiseOver {a : Expr} {ta : TA} {W : WX} {p pos pos2 : Pos} {k : Nat} (hc : X.calm = true) (T : PySem.OverX.OverTxt X.K X.mg C fI) (hr : Room k X.A) (tk : Takes X W) (ha : PA X [a] ta) (hg : Gl X "Over" := by rfl)
    (he : starEach (a :: []) X.env = (false, eval a X.env) :: starEach [] X.env := by rfl) (hpl : (backTo pos (starEach [] X.env)).any (·.1) = false := by rfl) :
    PS X (.Raise (some (.Call (.Name "Over" p) [a] [] pos)) none pos2) (tRaiseOver C W ta) := ps_raise hc tk (pmk_over T hr ha hg he hpl)
end
end L2
namespace PySem.W
open PySem PySem.Spec PySem.Calls PyProof.Rows
section
variable {prog : Program} {w : World} {A : Around} {E : Value → Shared → Prop} {s : Shared} {K : Frag} {x D : Addr} {ox : Obj}
theorem findObj_dataO {C : Addr} {name : Str} {a g : Value} (hc : (clsIn K C).isSome = true) (ha : findIn K (.ref C) name = some (some a)) (hg : specialIn K a "__get__" = some (some g)) (ht : takesIn K a = some true) : ∀ od, findObj K C od name = some (.bind g a) := by
  intro od
  obtain ⟨cd, hc⟩ := Option.isSome_iff_exists.mp hc
  unfold findObj
  rw [hc, Option.bind_some, ha, Option.bind_some]
  simp [hg, ht]
theorem kin_classO {Q : Option Value → Shared → Prop} (hga : findIn K (.ref D) "__getattribute__" = some (some (.builtin "BaseException.__getattribute__"))) (hgt : findIn K (.ref D) "__getattr__" = some none) (hsub : subIn K (.ref D) (.type "BaseException") = some true)
    (hdct : hasDictIn K D = true) (ha : findIn K (.ref D) "__class__" = some (some (.builtin "object.__class__")))
    (hn : specialIn K (.builtin "object.__class__") "__get__" = some (some (.builtin "getset_descriptor.__get__"))) (htk : takesIn K (.builtin "object.__class__") = some true) (hm : mroIn K D (.type "object") = some true)
    (X : K.In s.heap) {od : Option Obj} (I : InstAt s.heap x ox D od) (h : Q (some (.ref D)) { s with toks := s.toks + 1 }) : wpAny (model prog w) A (getAttr? (.ref x) "__class__") Q E s := by
  have hf : findObj K D od "__class__" = some (.bind (.builtin "getset_descriptor.__get__") (.builtin "object.__class__")) := findObj_dataO (by obtain ⟨cd, hc, _⟩ := any_some hdct; rw [hc]; rfl) ha hn htk od
  obtain ⟨hp, g, d, t, os⟩ := s
  have L0 := I.type (M := model prog w)
  have L1 := looks_findIn (M := model prog w) X hga
  have L2 := looks_findIn (M := model prog w) X hgt
  have L3 := looks_find (M := model prog w) X I hf
  have sub : Looks (model prog w) hp (isInstance (.ref x) (.type "BaseException")) true := L0.andThen (looks_subIn X hsub)
  have hx0 : (false && onTheHeap (Value.builtin "BaseException.__getattribute__")) = false := rfl
  have hx2 : (Value.builtin "BaseException.__getattribute__" == Value.builtin "object.__getattribute__") = false := by decide +kernel
  have hx1 : (onTheHeap (Value.ref D) && Value.builtin "BaseException.__getattribute__" == Value.builtin "object.__getattribute__") = false := by rw [hx2]; rfl
  unfold getAttr? getAttrBy? getAttrBy
  refine wpAny_bind (wpAny_mkText (wpAny_bind (wpAny_attempt (wpAny_holding (wpAny_bind (L0.at (wpAny_bind (L1.at ?_))))))))
  show wpAny _ _ (if (onTheHeap (Value.ref D) && Value.builtin "BaseException.__getattribute__" == Value.builtin "object.__getattribute__") = true then _ else _) _ _ _
  rw [hx1, if_neg Bool.false_ne_true]
  unfold getAttrByItsOwn hookBefore
  refine wpAny_bind ?_
  rw [if_pos (show onTheHeap (Value.ref D) = true from rfl)]
  refine L2.at ?_
  refine wpAny_bind (wpAny_attempt (wpAny_holding ?_))
  unfold callGetattribute
  rw [hx0, if_neg Bool.false_ne_true]
  unfold boundAndCalled
  rw [PySem.F.excAttr_ValueError.ga.bind (.ref x)]
  refine wpAny_bind (wpAny_pure ?_)
  show wpAny _ _ (call (.builtin "BaseException.__getattribute__") [.ref x, .str "__class__" t]) _ _ _
  refine wpAny_call (codeAny_call_builtin PySem.F.excAttr_ValueError.ga.plain PySem.F.entry_bexc_ga ?_)
  refine @check_slot (model prog w) _ _ ⟨hp, g, d, t + 1, os⟩ "BaseException.__getattribute__" "BaseException" "__getattribute__" (.ref x) [.str "__class__" t] [] _ (by decide +kernel) (by decide +kernel) sub (PySem.F.args_bexc_ga (.ref x) (.str "__class__" t)) ?_
  unfold Builtin.«object.__getattribute__»
  refine wpAny_bind (wpAny_of_eq (a := ((Value.ref x : Value), [Value.str "__class__" t])) (by first | rfl | (simp only [slotArgs]; rfl)) ?_)
  refine wpAny_bind (wpAny_pure (wpAny_bind (L0.at (wpAny_bind (L3.at ?_)))))
  show wpAny _ _ (holding [Value.builtin "object.__class__"] (call (.builtin "getset_descriptor.__get__") [.builtin "object.__class__", .ref x, .ref D]) >>= ret) _ _ _
  refine wpAny_bind (wpAny_holding (wpAny_call (class_get (s := ⟨hp, g, d, t + 1, os⟩) (ox := ox) (od := od) X I hm ?_)))
  refine wpAny_pure ?_
  show wpAny _ _ (handedOut (.ref D)) _ _ _
  rw [handedOut_of (v := .ref D) rfl]
  first
    | exact wpAny_pure (wpAny_pure h)
    | exact wpAny_pure h
    | exact wpAny_pure (wpAny_bind (wpAny_pure (wpAny_pure h)))
theorem kitx_excO (hga : findIn K (.ref D) "__getattribute__" = some (some (.builtin "BaseException.__getattribute__"))) (hgt : findIn K (.ref D) "__getattr__" = some none) (hsub : subIn K (.ref D) (.type "BaseException") = some true) (hdct : hasDictIn K D = true) (ha : findIn K (.ref D) "__class__" = some (some (.builtin "object.__class__")))
    (hn : specialIn K (.builtin "object.__class__") "__get__" = some (some (.builtin "getset_descriptor.__get__"))) (htk : takesIn K (.builtin "object.__class__") = some true) (hm : mroIn K D (.type "object") = some true) :
    KitX K (.ref x) (.ref D) (fun h => ∃ od, InstAt h x ox D od) where
  ty := fun _ _ _ ⟨_, I⟩ => I.type
  it := fun _ _ X _ => by
    obtain ⟨cdD, hcD, _⟩ := any_some hdct
    unfold clsIn at hcD
    split at hcD
    · rename_i c' d' cd' sl' ho
      intro A' Q' E' s' k q
      unfold isType loadHead
      exact wpAny_bind (wpAny_loadPart (k _ _ (X _ _ ho)) (wpAny_pure q))
    · cases hcD
  ne := fun h tp dd its n sl X htp => by
    obtain ⟨cdD, hcD, _⟩ := any_some hdct
    refine Bool.eq_false_iff.mpr fun q => ?_
    have e : D = tp := Value.ref.inj (beq_iff_eq.mp q)
    subst e
    unfold clsIn at hcD
    split at hcD
    · rename_i c' d' cd' sl' ho
      have z := (X _ _ ho).symm.trans htp
      cases z
    · cases hcD
  ca := fun X ⟨_, I⟩ k => kin_classO hga hgt hsub hdct ha hn htk hm X I k
end
end PySem.W
namespace L2
open PySem PySem.Spec PyProof.Rows
/-- a held error, its class, its dict -/
def Held (H : Hp) (a : Addr) (D : Addr) (d : Option Addr) : Prop := H a = some (Ev.exK a (.ref D) d) ∧ (d = none ∨ ∃ dd fs, d = some dd ∧ H dd = some (.xd fs))
section
variable {X : Cx} {pins : List (Addr × Obj)} {σ : St} {H : Hp} {s : Shared}
theorem Held.at_ {a D : Addr} {d : Option Addr} (h : Held H a D d) (I : Inv X pins σ H s) : ∃ ox od, PySem.W.InstAt s.heap a ox D od ∧ ox.dict = d ∧ s.heap.get? a = some ox ∧ ∃ vs, ox.data = .fields vs := by
  obtain ⟨h1, h2⟩ := h
  obtain ⟨⟨oe, vs, ha, hz, hd⟩, _⟩ := I.hok a _ h1
  have no : PySem.W.notCls oe = true := by unfold PySem.W.notCls; rw [hd] <;> rfl
  rcases h2 with rfl | ⟨dd, fs, rfl, hdd⟩
  · exact ⟨oe, none, ⟨ha, hz.1, no, by rw [hz.2]; trivial⟩, hz.2, ha, vs, hd⟩
  · obtain ⟨mA, hns, hr⟩ := I.hok dd _ hdd
    obtain ⟨od, ho, hl⟩ := lookIn_ns hns
    exact ⟨oe, some od, ⟨ha, hz.1, no, by rw [hz.2]; exact ho⟩, hz.2, ha, vs, hd⟩
end
/-- isinstance(e, c), e an error that is held -/
def rIsK (K : PySem.W.Frag) : List V → Hp → VK → Prop := fun xs H Q => ∃ (a D : Addr) (d : Option Addr) (c : V) (cv : Value) (b : Bool), xs = [.ref a, c] ∧ Held H a D d ∧ ExcC K D ∧ (∀ u, RelV c u → u = cv) ∧ PySem.W.kitOne K (.ref D) cv = some b ∧ Q (.bl b) H
theorem call_isK {X : Cx} : CallR X (.builtin "isinstance") (rIsK X.K) := by
  intro pins s σ H xs us Q I r h
  obtain ⟨a, D, d, c, cv, b, rfl, hh, C, hcv, e, q⟩ := h
  cases r with
  | cons rx rr =>
    cases rr with
    | cons rt rr =>
      cases rr
      cases rx
      have ec := hcv _ rt
      subst ec
      obtain ⟨ox, od, J, _⟩ := hh.at_ I
      exact PySem.W.kia_one (PySem.W.kitx_excO C.hg C.hk C.hs C.hd C.ha C.hn C.ht C.hm) I.kIn ⟨od, J⟩ e (fun z => nomatch z) fun tk => ⟨.bl b, H, I.kept (t' := tk) fun _ _ z => z, rfl, q⟩
/-- e.f, e an error that is held -/
def tFldK (K : PySem.W.Frag) (f : Str) (te : TE) : TE := fun σ H Q => te σ H fun x H1 => ∃ (a C dd : Addr) (fs : List (Str × V)) (v : V), x = .ref a ∧ H1 a = some (Ev.exK a (.ref C) (some dd)) ∧ H1 dd = some (.xd fs) ∧ fs.lookup f = some v ∧ XfC K C ∧ PySem.W.findIn K (.ref C) f = some none ∧ Q v H1
theorem pe_fldK {X : Cx} {e : Expr} {te : TE} {pos : Pos} {n : Str} (he : PE X e te) (hb : attributeBase e n X.env (eval e X.env) = eval e X.env := by rfl) :
    PE X (.Attribute e n pos) (tFldK X.K n te) := by
  refine ⟨fun pins s σ H Q I h => ?_⟩
  refine attr_of hb (thn (he.run pins s σ H _ I h) fun u s1 hh => ?_)
  obtain ⟨x, H1, I1, rx, a, C, dd, fs, v, ex, hx1, ea, l, T, hno, q⟩ := hh
  subst ex
  obtain rfl : u = Value.ref a := rx
  obtain ⟨⟨oe, vs, ha, hz, hd⟩, _⟩ := I1.hok a _ hx1
  have hx : ObjOk X.prog X.w H1 s1.heap dd (.xd fs) := I1.hok dd _ ea
  obtain ⟨mA, hns, hr⟩ := hx
  obtain ⟨od, ho, hl⟩ := lookIn_ns hns
  obtain ⟨u, hu, ru⟩ := RelO.some_of (v := v) (o := mA n) (by rw [← l]; exact hr n)
  have J : PySem.W.InstAt s1.heap a oe C (some od) := ⟨ha, hz.1, by unfold PySem.W.notCls; rw [hd] <;> rfl, by rw [hz.2]; exact ho⟩
  exact HandSPX.exc_get I1.kIn J T.ga T.gg T.exC (PySem.W.findObj_own T.hdC hno rfl (by rw [hl, hu])) (handed_of ru) ⟨v, H1, I1.tok _, ru, q⟩
end L2

set_option Elab.async false
set_option linter.all false
set_option maxRecDepth 100000
set_option maxHeartbeats 4000000
/-! ## Operations: what the evaluator answers, the model answers -/
namespace Ev
open PySem PySem.Spec PyProof.Rows L2

/-! ### weakest readings -/
def WE (X : Cx) (e : Expr) : TE := fun σ H Q => ∀ (pins : List (Addr × Obj)) (s : Shared), Inv X pins σ H s → wpAny (model X.prog X.w) X.A (eval e X.env) (EP X pins σ Q) X.xe s
def WT (X : Cx) (e : Expr) : TT := fun σ H Q => ∀ (pins : List (Addr × Obj)) (s : Shared), Inv X pins σ H s → wpAny (model X.prog X.w) X.A (isTrue e X.env (eval e X.env)) (TP X pins σ Q) X.xe s
def WW (X : Cx) (e : Expr) : TT := fun σ H Q => ∀ (whole : Sem Value) (pins : List (Addr × Obj)) (s : Shared), Inv X pins σ H s → wpAny (model X.prog X.w) X.A (isTrue e X.env whole) (TP X pins σ Q) X.xe s
def WA (X : Cx) (es : List Expr) : TA := fun σ H Q => ∀ (pos : Pos) (pins : List (Addr × Obj)) (s : Shared), Inv X pins σ H s → wpAny (model X.prog X.w) X.A (spliced (backTo pos (starEach es X.env))) (AP X pins σ Q) X.xe s
def WSt (X : Cx) (st : Stmt) : TS := fun D σ H => ∀ (pins : List (Addr × Obj)) (s : Shared), Inv X pins σ H s → wpAny (model X.prog X.w) X.A (exec st X.env) (SP X pins D) X.xe s
def WSs (X : Cx) (st : List Stmt) : TS := fun D σ H => ∀ (pins : List (Addr × Obj)) (s : Shared), Inv X pins σ H s → wpAny (model X.prog X.w) X.A (execs st X.env) (SP X pins D) X.xe s
def WOp (X : Cx) (f : Value → Value → Sem Value) : R2 := fun x y H Q => ∀ (pins : List (Addr × Obj)) (s : Shared) (σ : L2.St) (v u : Value), Inv X pins σ H s → RelV x v → RelV y u → wpAny (model X.prog X.w) X.A (f v u) (EP X pins σ Q) X.xe s
def WCall (X : Cx) (f : Value) : List V → Hp → VK → Prop := fun xs H Q => ∀ (pins : List (Addr × Obj)) (s : Shared) (σ : L2.St) (us : List Value), Inv X pins σ H s → Vals xs us → wpAny (model X.prog X.w) X.A (call f us) (EP X pins σ Q) X.xe s
section
variable {X : Cx} {e : Expr} {σ : L2.St} {H : Hp}
theorem WE.pe : PE X e (WE X e) := ⟨fun pins s _ _ _ I h => h pins s I⟩
theorem WT.pt : PT X e (WT X e) := ⟨fun pins s _ _ _ I h => h pins s I⟩
theorem WW.pw : PW X e (WW X e) := ⟨fun wh pins s _ _ _ I h => h wh pins s I⟩
theorem WA.pa {es : List Expr} : PA X es (WA X es) := ⟨fun pos pins s _ _ _ I h => h pos pins s I⟩
theorem WSt.ps {st : Stmt} : PS X st (WSt X st) := ⟨fun pins s _ _ _ I h => h pins s I⟩
theorem WSs.pss {st : List Stmt} : PSs X st (WSs X st) := ⟨fun pins s _ _ _ I h => h pins s I⟩
theorem WOp.r {f : Value → Value → Sem Value} : OpR X f (WOp X f) := fun pins s σ _ _ _ v u _ I rx ry h => h pins s σ v u I rx ry
theorem WCall.r {f : Value} : CallR X f (WCall X f) := fun pins s σ _ _ us _ I r h => h pins s σ us I r
theorem of_pe {t : TE} {Q : VK} (h : PE X e t) (q : t σ H Q) : WE X e σ H Q := fun pins s I => h.run pins s σ H Q I q
theorem of_pt {t : TT} {Q : Bool → Hp → Prop} (h : PT X e t) (q : t σ H Q) : WT X e σ H Q := fun pins s I => h.run pins s σ H Q I q
theorem of_pw {t : TT} {Q : Bool → Hp → Prop} (h : PW X e t) (q : t σ H Q) : WW X e σ H Q := fun wh pins s I => h.run wh pins s σ H Q I q
theorem of_pa {es : List Expr} {t : TA} {Q : List V → Hp → Prop} (h : PA X es t) (q : t σ H Q) : WA X es σ H Q := fun pos pins s I => h.run pos pins s σ H Q I q
theorem of_ps {st : Stmt} {t : TS} {D : Ends} (h : PS X st t) (q : t D σ H) : WSt X st D σ H := fun pins s I => h.run pins s σ H D I q
theorem of_pss {st : List Stmt} {t : TS} {D : Ends} (h : PSs X st t) (q : t D σ H) : WSs X st D σ H := fun pins s I => h.run pins s σ H D I q
theorem of_op {f : Value → Value → Sem Value} {r : R2} {x y : V} {Q : VK} (h : OpR X f r) (q : r x y H Q) : WOp X f x y H Q := fun pins s σ v u I rx ry => h pins s σ H x y v u Q I rx ry q
theorem of_call {f : Value} {r : List V → Hp → VK → Prop} {xs : List V} {Q : VK} (h : CallR X f r) (q : r xs H Q) : WCall X f xs H Q := fun pins s σ us I r' => h pins s σ H xs us Q I r' q
end

/-! ### what is wanted of a result -/
def PostV (K : PySem.W.Frag) (ρ : List Addr) (H : Hp) (r : Res Val) (Q : VK) : Prop :=
  match r with
  | .ok v st => ∀ (V : V) (H' : Hp) (ρ' : List Addr), Ex ρ ρ' → Gr K H H' → RS K ρ' H' st → RV K ρ' H' v V → Q V H'
  | _ => False
/-- an error on its way: its class, its dict -/
def XR (K : PySem.W.Frag) (ρ : List Addr) (H : Hp) (c : Str) (v : Val) (cls : Value) (d : Option Addr) : Prop := ∃ C, PySem.W.nsIn K mainGlobals c = some (some (.ref C)) ∧ cls = .ref C ∧ FsR K ρ H (excFs c v) d ∧ (c = "Over" ∨ c ∈ exc0)
def PostX {α : Type} (K : PySem.W.Frag) (ρ : List Addr) (H : Hp) (r : Res α) (E : XK) : Prop :=
  match r with
  | .exc c v st => ∀ (cls : Value) (d : Option Addr) (H' : Hp) (ρ' : List Addr), Ex ρ ρ' → Gr K H H' → RS K ρ' H' st → XR K ρ' H' c v cls d → E cls d H'
  | _ => False
theorem PostX.mono {α : Type} {K : PySem.W.Frag} {ρ ρ' : List Addr} {H H' : Hp} {r : Res α} {E : XK} (h : PostX K ρ H r E) (hx : Ex ρ ρ') (hg : Gr K H H') : PostX K ρ' H' r E := by
  cases r with
  | exc c v st => exact fun cls d H2 ρ2 x g rs xr => h cls d H2 ρ2 (hx.trans x) (hg.trans g) rs xr
  | _ => exact h.elim
def PostB (K : PySem.W.Frag) (ρ : List Addr) (H : Hp) (r : Res Bool) (Q : Bool → Hp → Prop) : Prop :=
  match r with
  | .ok b st => ∀ (H' : Hp) (ρ' : List Addr), Ex ρ ρ' → Gr K H H' → RS K ρ' H' st → Q b H'
  | _ => False
def PostL (K : PySem.W.Frag) (ρ : List Addr) (H : Hp) (r : Res Val) (Q : List V → Hp → Prop) : Prop :=
  match r with
  | .ok (.tup xs) st => ∀ (vs : List V) (H' : Hp) (ρ' : List Addr), Ex ρ ρ' → Gr K H H' → RS K ρ' H' st → RVs K ρ' H' xs vs → Q vs H'
  | _ => False
def PostF (K : PySem.W.Frag) (ρ : List Addr) (H : Hp) (r : Res (Flow × Env)) (D : Ends) : Prop :=
  match r with
  | .ok (f, env) st => ∀ (σ' : L2.St) (H' : Hp) (ρ' : List Addr), Ex ρ ρ' → Gr K H H' → RS K ρ' H' st → RE K ρ' H' env σ' → (match f with
    | .next => D.nx σ' H'
    | .brk => D.bk σ' H'
    | .cont => D.ct σ' H'
    | .ret v => ∀ V, RV K ρ' H' v V → D.rt V H')
  | _ => False
section
variable {K : PySem.W.Frag} {ρ ρ' : List Addr} {H H' : Hp}
theorem PostV.mono {r : Res Val} {Q : VK} (h : PostV K ρ H r Q) (hx : Ex ρ ρ') (hg : Gr K H H') : PostV K ρ' H' r Q := by
  cases r with
  | ok v st => exact fun V H2 ρ2 a b c d => h V H2 ρ2 (hx.trans a) (hg.trans b) c d
  | exc _ _ _ => exact h
  | stuck => exact h
theorem PostB.mono {r : Res Bool} {Q : Bool → Hp → Prop} (h : PostB K ρ H r Q) (hx : Ex ρ ρ') (hg : Gr K H H') : PostB K ρ' H' r Q := by
  cases r with
  | ok v st => exact fun H2 ρ2 a b c => h H2 ρ2 (hx.trans a) (hg.trans b) c
  | exc _ _ _ => exact h
  | stuck => exact h
theorem PostL.mono {r : Res Val} {Q : List V → Hp → Prop} (h : PostL K ρ H r Q) (hx : Ex ρ ρ') (hg : Gr K H H') : PostL K ρ' H' r Q := by
  cases r with
  | ok v st =>
    cases v with
    | tup xs => exact fun V H2 ρ2 a b c d => h V H2 ρ2 (hx.trans a) (hg.trans b) c d
    | _ => exact h
  | exc _ _ _ => exact h
  | stuck => exact h
theorem PostF.mono {r : Res (Flow × Env)} {D : Ends} (h : PostF K ρ H r D) (hx : Ex ρ ρ') (hg : Gr K H H') : PostF K ρ' H' r D := by
  cases r with
  | ok p st => exact fun σ2 H2 ρ2 a b c d => h σ2 H2 ρ2 (hx.trans a) (hg.trans b) c d
  | exc _ _ _ => exact h
  | stuck => exact h
theorem PostV.bnd {α : Type} {r : Res α} {f : α → Store → Res Val} {Q : VK} (h : PostV K ρ H (r.bind f) Q) : ∃ a s1, r = .ok a s1 ∧ PostV K ρ H (f a s1) Q := by
  cases r with
  | ok a s1 => exact ⟨a, s1, rfl, h⟩
  | exc _ _ _ => exact h.elim
  | stuck => exact h.elim
theorem PostV.bndX {α : Type} {r : Res α} {f : α → Store → Res Val} {Q : VK} (h : PostV K ρ H (r.bindX f) Q) : ∃ a s1, r = .ok a s1 ∧ PostV K ρ H (f a s1) Q := by
  cases r with
  | ok a s1 => exact ⟨a, s1, rfl, h⟩
  | exc _ _ _ => exact h.elim
  | stuck => exact h.elim
theorem PostB.bnd {α : Type} {r : Res α} {f : α → Store → Res Bool} {Q : Bool → Hp → Prop} (h : PostB K ρ H (r.bind f) Q) : ∃ a s1, r = .ok a s1 ∧ PostB K ρ H (f a s1) Q := by
  cases r with
  | ok a s1 => exact ⟨a, s1, rfl, h⟩
  | exc _ _ _ => exact h.elim
  | stuck => exact h.elim
theorem PostB.bndX {α : Type} {r : Res α} {f : α → Store → Res Bool} {Q : Bool → Hp → Prop} (h : PostB K ρ H (r.bindX f) Q) : ∃ a s1, r = .ok a s1 ∧ PostB K ρ H (f a s1) Q := by
  cases r with
  | ok a s1 => exact ⟨a, s1, rfl, h⟩
  | exc _ _ _ => exact h.elim
  | stuck => exact h.elim
theorem PostL.bnd {α : Type} {r : Res α} {f : α → Store → Res Val} {Q : List V → Hp → Prop} (h : PostL K ρ H (r.bind f) Q) : ∃ a s1, r = .ok a s1 ∧ PostL K ρ H (f a s1) Q := by
  cases r with
  | ok a s1 => exact ⟨a, s1, rfl, h⟩
  | exc _ _ _ => exact h.elim
  | stuck => exact h.elim
theorem PostL.bndX {α : Type} {r : Res α} {f : α → Store → Res Val} {Q : List V → Hp → Prop} (h : PostL K ρ H (r.bindX f) Q) : ∃ a s1, r = .ok a s1 ∧ PostL K ρ H (f a s1) Q := by
  cases r with
  | ok a s1 => exact ⟨a, s1, rfl, h⟩
  | exc _ _ _ => exact h.elim
  | stuck => exact h.elim
theorem PostF.bnd {α : Type} {r : Res α} {f : α → Store → Res (Flow × Env)} {D : Ends} (h : PostF K ρ H (r.bind f) D) : ∃ a s1, r = .ok a s1 ∧ PostF K ρ H (f a s1) D := by
  cases r with
  | ok a s1 => exact ⟨a, s1, rfl, h⟩
  | exc _ _ _ => exact h.elim
  | stuck => exact h.elim
theorem PostF.bndX {α : Type} {r : Res α} {f : α → Store → Res (Flow × Env)} {D : Ends} (h : PostF K ρ H (r.bindX f) D) : ∃ a s1, r = .ok a s1 ∧ PostF K ρ H (f a s1) D := by
  cases r with
  | ok a s1 => exact ⟨a, s1, rfl, h⟩
  | exc _ _ _ => exact h.elim
  | stuck => exact h.elim
theorem PostV.need {p : Prop} [Decidable p] {r : Res Val} {Q : VK} (h : PostV K ρ H (Ev.need p r) Q) : p ∧ PostV K ρ H r Q := by
  unfold Ev.need at h
  split at h
  · exact ⟨‹_›, h⟩
  · exact h.elim
/-- the value as it is, the store as it is -/
theorem PostV.here {v : Val} {st : Store} {Q : VK} {u : V} (h : PostV K ρ H (.ok v st) Q) (r : RS K ρ H st) (q : RV K ρ H v u) : Q u H := h u H ρ Ex.refl Gr.refl r q
/-- a new list -/
theorem PostV.newL {xs : List Val} {vs : List V} {st : Store} {Q : VK} {p : Addr} (h : PostV K ρ H (.ok (.ref st.length) (st ++ [.lst xs])) Q) (r : RS K ρ H st) (q : RVs K ρ H xs vs) (hp : H p = none) : Q (.ref p) (upd H p (.lst vs)) := by
  have hg : Gr K H (upd H p (.lst vs)) := Gr.new hp
  refine h _ _ (ρ ++ [p]) ⟨[p], rfl⟩ hg (r.alloc hp ⟨vs, upd_same, RVs.mono ⟨[p], rfl⟩ hg _ _ q⟩) (.ref ?_)
  rw [← r.len, List.getElem?_append_right (Nat.le_refl _)]; simp
/-- a new tuple -/
theorem PostV.newT {xs : List Val} {vs : List V} {st : Store} {Q : VK} {p : Addr} (h : PostV K ρ H (.ok (.tup xs) st) Q) (r : RS K ρ H st) (q : RVs K ρ H xs vs) (hp : H p = none) : Q (.ref p) (upd H p (.tup vs)) := by
  have hg : Gr K H (upd H p (.tup vs)) := Gr.new hp
  exact h _ _ ρ Ex.refl hg (r.other hp) (.tup (SqT.of upd_same) (RVs.mono Ex.refl hg _ _ q))
end

/-! ### operators -/
def opOf : Bop → Operator
  | .add => .Add | .sub => .Sub | .mul => .Mult | .fdiv => .FloorDiv | .mod => .Mod | .pow => .Pow
def cmpOf : Cop → CmpOp
  | .eq => .Eq | .ne => .NotEq | .lt => .Lt | .le => .LtE | .gt => .Gt | .ge => .GtE | .isin => .In | .notin => .NotIn | .is_ => .Is | .isnot => .IsNot
section
variable {X : Cx} {ρ : List Addr} {H : Hp} {st : Store} {Q : VK}
theorem bin_ok {op : Bop} {x y : Val} {v u : V} (rs : RS X.K ρ H st) (rx : RV X.K ρ H x v) (ry : RV X.K ρ H y u) (h : PostV X.K ρ H (binop op x y st) Q) : WOp X (binaryOp (opOf op)) v u H Q := by
  cases op with
  | add =>
    cases rx with
    | int i =>
      cases ry with
      | int j => exact of_op op_add ⟨i, j, rfl, rfl, h.here rs (.int _)⟩
      | _ => exact h.elim
    | str a =>
      cases ry with
      | str b =>
        obtain ⟨hl, h⟩ := PostV.need h
        exact of_op op_add_str ⟨a, b, rfl, rfl, hl, h.here rs (.str _)⟩
      | _ => exact h.elim
    | @tup xs a vs hs hv =>
      cases ry with
      | @tup ys b us hs' hu =>
        obtain ⟨hl, h⟩ := PostV.need h
        have hl' : vs.length + us.length ≤ sizeLine := by rw [← hv.length, ← hu.length]; exact hl
        by_cases hx : vs = []
        · subst hx
          cases hv
          exact of_op op_catA ⟨a, b, _, _, rfl, rfl, hs, hs', hl', fun _ => h.here rs (.tup hs' hu), fun z => absurd rfl z, fun z => absurd rfl z⟩
        · refine of_op op_catT ⟨a, b, _, _, rfl, rfl, hs, hs', hx, hl', fun z => ?_, fun _ p hp => h.newT rs (hv.append hu) hp⟩
          subst z
          cases hu
          rw [List.append_nil] at h
          exact h.here rs (.tup hs hv)
      | _ => exact h.elim
    | @ref n a hn =>
      cases ry with
      | @ref m b hm =>
        have h : PostV X.K ρ H (match st[n]?, st[m]? with
          | some (.lst xs), some (.lst ys) => need (xs.length + ys.length ≤ sizeLine) (.ok (.ref st.length) (st ++ [.lst (xs ++ ys)]))
          | _, _ => .stuck) Q := h
        split at h
        · rename_i xs ys e1 e2
          obtain ⟨hl, h⟩ := PostV.need h
          obtain ⟨vs, h1, q1⟩ := rs.at_ e1 hn
          obtain ⟨us, h2, q2⟩ := rs.at_ e2 hm
          exact of_op op_cat ⟨a, b, vs, us, rfl, rfl, h1, h2, by rw [← q1.length, ← q2.length]; exact hl, fun p hp => h.newL rs (q1.append q2) hp⟩
        · exact h.elim
      | _ => exact h.elim
    | _ => exact h.elim
  | sub =>
    cases rx with
    | int i =>
      cases ry with
      | int j => exact of_op op_sub ⟨i, j, rfl, rfl, h.here rs (.int _)⟩
      | _ => exact h.elim
    | _ => exact h.elim
  | mul =>
    cases rx with
    | int i =>
      cases ry with
      | int j =>
        obtain ⟨hl, h⟩ := PostV.need h
        exact of_op op_mul ⟨i, j, rfl, rfl, hl, h.here rs (.int _)⟩
      | _ => exact h.elim
    | @tup xs a vs hs hv =>
      cases ry with
      | int k =>
        obtain ⟨⟨h1, h2, h3, h4⟩, h⟩ := PostV.need h
        refine of_op op_repT ⟨a, k, vs, rfl, rfl, hs, fun z => ?_, h2, h3, by rw [← hv.length]; exact h4, fun p hp => h.newT rs (hv.rep _) hp⟩
        subst z; cases hv; exact h1 rfl
      | _ => exact h.elim
    | @ref n a hn =>
      cases ry with
      | int k =>
        have h : PostV X.K ρ H (match st[n]? with
          | some (.lst xs) => need (-(2 ^ 63) ≤ k ∧ k < 2 ^ 63 ∧ xs.length * k.toNat ≤ sizeLine) (.ok (.ref st.length) (st ++ [.lst (List.replicate k.toNat xs).flatten]))
          | _ => .stuck) Q := h
        split at h
        · rename_i xs e1
          obtain ⟨⟨h1, h2, h3⟩, h⟩ := PostV.need h
          obtain ⟨vs, h4, q1⟩ := rs.at_ e1 hn
          exact of_op op_rep ⟨a, k, vs, rfl, rfl, h4, h1, h2, by rw [← q1.length]; exact h3, fun p hp => h.newL rs (q1.rep _) hp⟩
        · exact h.elim
      | _ => exact h.elim
    | _ => exact h.elim
  | fdiv =>
    cases rx with
    | int i =>
      cases ry with
      | int j =>
        obtain ⟨hl, h⟩ := PostV.need h
        exact of_op op_fdiv ⟨i, j, rfl, rfl, hl, h.here rs (.int _)⟩
      | _ => exact h.elim
    | _ => exact h.elim
  | mod =>
    cases rx with
    | int i =>
      cases ry with
      | int j =>
        obtain ⟨hl, h⟩ := PostV.need h
        exact of_op op_mod ⟨i, j, rfl, rfl, hl, h.here rs (.int _)⟩
      | _ => exact h.elim
    | _ => exact h.elim
  | pow =>
    cases rx with
    | int i =>
      cases ry with
      | int j =>
        obtain ⟨hl, h⟩ := PostV.need h
        exact of_op op_pow ⟨i, j, rfl, rfl, hl, h.here rs (.int _)⟩
      | _ => exact h.elim
    | _ => exact h.elim
theorem scalB_ok {x y : Val} {v u : V} {b : Bool} (rx : RV X.K ρ H x v) (ry : RV X.K ρ H y u) (h : scalB x y = some b) : scal v u = true ∧ decide (v = u) = b := by
  cases rx <;> cases ry <;> first | (cases h; done) | (cases h; refine ⟨rfl, ?_⟩; first | rfl | exact decide_eq_false (fun z => nomatch z) | simp)
theorem eqM_ok {neg : Bool} {x y : Val} {v u : V} (hu : X.A.units + 64 < cLine) (rs : RS X.K ρ H st) (rx : RV X.K ρ H x v) (ry : RV X.K ρ H y u) (h : PostV X.K ρ H (optB (eqM st x y) neg st) Q) :
    WOp X (compareOp (if neg then .NotEq else .Eq)) v u H Q := by
  cases e : eqM st x y with
  | none => rw [e] at h; exact h.elim
  | some b =>
    rw [e] at h
    have q : Q (.bl (if neg then !b else b)) H := PostV.here (st := st) h rs (.bool _)
    unfold eqM at e
    cases e1 : scalB x y with
    | some r =>
      rw [e1] at e
      cases e
      obtain ⟨s1, s2⟩ := scalB_ok rx ry e1
      cases neg with
      | false => exact of_op op_eq ⟨s1, by rw [s2]; exact q⟩
      | true => exact of_op op_ne ⟨s1, by rw [s2]; exact q⟩
    | none =>
      rw [e1] at e
      simp only at e
      split at e
      · rename_i d d' e2 e3
        split at e
        · rename_i hs
          cases e
          have q1 := toD_dp rs _ _ _ _ rx e2
          have q2 := toD_dp rs _ _ _ _ ry e3
          cases neg with
          | false => exact of_op (op_eqD hu) ⟨d, d', q1, q2, hs.1, hs.2, q⟩
          | true => exact of_op (op_neD hu) ⟨d, d', q1, q2, hs.1, hs.2, q⟩
        · cases e
      · cases e
theorem inM_ok {neg : Bool} {x y : Val} {v u : V} (rs : RS X.K ρ H st) (rx : RV X.K ρ H x v) (ry : RV X.K ρ H y u) (h : PostV X.K ρ H (optB (inM st x y) neg st) Q) :
    WOp X (compareOp (if neg then .NotIn else .In)) v u H Q := by
  cases e : inM st x y with
  | none => rw [e] at h; exact h.elim
  | some b =>
    rw [e] at h
    have q : Q (.bl (if neg then !b else b)) H := PostV.here (st := st) h rs (.bool _)
    unfold inM at e
    cases e1 : seqItems st y with
    | none => rw [e1] at e; cases e
    | some xs =>
      rw [e1] at e
      have e : (if flatB x = true ∧ xs.all flatB = true then some (xs.any fun y => flatEq y x) else none) = some b := e
      split at e
      · rename_i hf
        cases e
        obtain ⟨p, vs, rfl, hs, hv⟩ : ∃ p vs, u = .ref p ∧ (SqL X.K H p vs ∨ SqT X.K H p vs) ∧ RVs X.K ρ H xs vs := by
          cases ry with
          | tup a b => cases e1; exact ⟨_, _, rfl, .inr a, b⟩
          | ref hn =>
            obtain ⟨vs, h1, h2⟩ := rs.list e1 hn
            exact ⟨_, _, rfl, .inl h1, h2⟩
          | _ => cases e1
        have i1 := RVs.inV rx hf.1 hv hf.2
        cases neg with
        | false => exact of_op op_in_seq ⟨p, vs, rfl, hs, rx.flat hf.1, hv.flat hf.2, by rw [i1]; exact q⟩
        | true => exact of_op op_notIn_seq ⟨p, vs, rfl, hs, rx.flat hf.1, hv.flat hf.2, by rw [i1]; exact q⟩
      · cases e
theorem cmp_ok {op : Cop} {x y : Val} {v u : V} (hu : X.A.units + 64 < cLine) (rs : RS X.K ρ H st) (rx : RV X.K ρ H x v) (ry : RV X.K ρ H y u) (h : PostV X.K ρ H (cmpop op x y st) Q) : WOp X (compareOp (cmpOf op)) v u H Q := by
  cases op with
  | eq => exact eqM_ok (neg := false) hu rs rx ry h
  | ne => exact eqM_ok (neg := true) hu rs rx ry h
  | isin => exact inM_ok (neg := false) rs rx ry h
  | notin => exact inM_ok (neg := true) rs rx ry h
  | lt =>
    cases rx with
    | int i =>
      cases ry with
      | int j => exact of_op op_lt ⟨i, j, rfl, rfl, h.here rs (.bool _)⟩
      | _ => exact h.elim
    | _ => exact h.elim
  | le =>
    cases rx with
    | int i =>
      cases ry with
      | int j => exact of_op op_le ⟨i, j, rfl, rfl, h.here rs (.bool _)⟩
      | _ => exact h.elim
    | _ => exact h.elim
  | gt =>
    cases rx with
    | int i =>
      cases ry with
      | int j => exact of_op op_gt ⟨i, j, rfl, rfl, h.here rs (.bool _)⟩
      | _ => exact h.elim
    | _ => exact h.elim
  | ge =>
    cases rx with
    | int i =>
      cases ry with
      | int j => exact of_op op_ge ⟨i, j, rfl, rfl, h.here rs (.bool _)⟩
      | _ => exact h.elim
    | _ => exact h.elim
  | is_ =>
    cases ry with
    | none =>
      refine of_op op_isN ⟨rfl, ?_⟩
      cases rx <;> exact PostV.here (st := st) h rs (.bool _)
    | _ => exact h.elim
  | isnot =>
    cases ry with
    | none =>
      refine of_op op_notN ⟨rfl, ?_⟩
      cases rx <;> exact PostV.here (st := st) h rs (.bool _)
    | _ => exact h.elim
/-- a value's truth -/
theorem truth_ok {x : Val} {v : V} {b : Bool} (rs : RS X.K ρ H st) (rx : RV X.K ρ H x v) (h : truth st x = some b) : TruV X.K v H b := by
  cases rx with
  | none => cases h; rfl
  | bool c => cases h; rfl
  | int i => cases h; rfl
  | str s =>
    have h : (if s.length ≤ sizeLine then some ((s.length : Int) != 0) else none) = some b := h
    split at h
    · cases h; exact ⟨by assumption, rfl⟩
    · cases h
  | tup a c => cases h; exact .inr (.inl ⟨_, a, by rw [c.isEmpty]⟩)
  | @ref n a hn =>
    have h : (listAt st n).map (fun xs => !xs.isEmpty) = some b := h
    cases e : listAt st n with
    | none => rw [e] at h; cases h
    | some xs =>
      rw [e] at h
      cases h
      obtain ⟨vs, h1, h2⟩ := rs.list e hn
      exact .inl ⟨vs, h1, congrArg not h2.isEmpty⟩
end
end Ev

set_option Elab.async false
set_option linter.all false
set_option maxRecDepth 100000
set_option maxHeartbeats 4000000
/-! ## Subscripts, built-in functions, methods -/
namespace L2
open PySem PySem.Spec PyProof.Rows
def rCntF (K : PySem.W.Frag) : V → List V → Hp → VK → Prop := fun x xs H Q => ∃ (a : Addr) (ys : List V) (y : V), x = .ref a ∧ xs = [y] ∧ SqL K H a ys ∧ flatV y = true ∧ ys.all flatV = true ∧ Q (.int ((ys.countP fun z => eqV z y) : Nat)) H
theorem countU {y : V} : ∀ {ys : List V} {its : List Value}, Vals ys its → ys.all flatV = true → its.countP (eqU y) = ys.countP fun z => eqV z y
  | _, _, .nil, _ => rfl
  | _, _, .cons r t, h => by
    simp only [List.all_cons, Bool.and_eq_true] at h
    rw [List.countP_cons, List.countP_cons, countU t h.2, eqU_of r h.1]
theorem mt_countF {X : Cx} : MtR X "list.count" (rCntF X.K) := by
  intro pins s σ H x xs v us Q I rx rxs h
  obtain ⟨a, ys, y, rfl, rfl, hs, fy, fys, q⟩ := h
  cases rx
  cases rxs with
  | cons ry rt =>
    rename_i uy ut
    cases rt
    obtain ⟨its, rv, ⟨⟨cls, dd, data, sl⟩, n, ho, hc, hdn, hd⟩, hlen⟩ := I.list hs
    simp only at hc hd
    subst hc hd
    refine call_meets PySem.F.slot_list_count ⟨_, ho, rfl⟩ PySem.F.entry_list_count (PySem.F.args_list_count_2 _ _)
      (SeqAt.list_countAt a its.toArray n dd sl uy (eqU y)) ⟨ho, fun u' hu' => mem_eqAt ry fy rv fys u' (by simpa using hu'), ?_⟩
    have ec : its.toArray.toList.countP (eqU y) = ys.countP fun z => eqV z y := countU rv fys
    refine ⟨.int ((ys.countP fun z => eqV z y) : Nat), H, I.tok _, ⟨s.toks, ?_⟩, q⟩
    show Value.int ((its.toArray.toList.countP (eqU y) : Nat) : Int) s.toks = Value.int (((ys.countP fun z => eqV z y) : Nat) : Int) s.toks
    rw [ec]
end L2
namespace Ev
open PySem PySem.Spec PyProof.Rows L2

def WIx (X : Cx) : R2 := fun x y H Q => ∀ (value slice : Expr) (pins : List (Addr × Obj)) (s : Shared) (σ : L2.St) (v u : Value), Inv X pins σ H s → RelV x v → RelV y u →
    subscripted slice false v u = operate [v, u] (getItem v u) → wpAny (model X.prog X.w) X.A (subscriptTail value slice v u) (EP X pins σ Q) X.xe s
theorem WIx.r {X : Cx} : IxR X (WIx X) := fun value slice pins s σ _ _ _ v u _ I rx ry h hs => h value slice pins s σ v u I rx ry hs
theorem of_ix {X : Cx} {r : R2} {x y : V} {H : Hp} {Q : VK} (h : IxR X r) (q : r x y H Q) : WIx X x y H Q := fun value slice pins s σ v u I rx ry hs => h value slice pins s σ H x y v u Q I rx ry q hs
def WSl (X : Cx) : V → Option Int → Option Int → Hp → VK → Prop := fun x lo hi H Q => ∀ (pins : List (Addr × Obj)) (s : Shared) (σ : L2.St) (v vl vu : Value) (sl : Addr), Inv X pins σ H s → RelV x v → s.heap.IsSliceOf sl vl vu .none → IsPart vl lo → IsPart vu hi →
    ∃ T id, typeLookup (.type T) "__getitem__" = pure (some (.builtin id)) ∧ s.TypeIs v T ∧ wpAny (model X.prog X.w) X.A (getItem v (.ref sl)) (EP X pins σ Q) X.xe s
theorem WSl.r {X : Cx} : SlR X (WSl X) := fun pins s σ _ _ v vl vu _ _ sl _ I rx hs pl pu h => h pins s σ v vl vu sl I rx hs pl pu
theorem of_sl {X : Cx} {r : V → Option Int → Option Int → Hp → VK → Prop} {x : V} {lo hi : Option Int} {H : Hp} {Q : VK} (h : SlR X r) (q : r x lo hi H Q) : WSl X x lo hi H Q := fun pins s σ v vl vu sl I rx hs pl pu => h pins s σ H x v vl vu lo hi sl Q I rx hs pl pu q
def WMt (X : Cx) (id : String) : V → List V → Hp → VK → Prop := fun x xs H Q => ∀ (pins : List (Addr × Obj)) (s : Shared) (σ : L2.St) (v : Value) (us : List Value), Inv X pins σ H s → RelV x v → Vals xs us → wpAny (model X.prog X.w) X.A (call (.builtin id) (v :: us)) (EP X pins σ Q) X.xe s
theorem WMt.r {X : Cx} {id : String} : MtR X id (WMt X id) := fun pins s σ _ _ _ v us _ I rx rs h => h pins s σ v us I rx rs
theorem of_mt {X : Cx} {id : String} {r : V → List V → Hp → VK → Prop} {x : V} {xs : List V} {H : Hp} {Q : VK} (h : MtR X id r) (q : r x xs H Q) : WMt X id x xs H Q := fun pins s σ v us I rx rs => h pins s σ H x xs v us Q I rx rs q

section
variable {X : Cx} {ρ : List Addr} {H : Hp} {st : Store} {Q : VK}
/-- d[k] -/
theorem ix_dict (hu : X.A.units + 1 < cLine) : IxR X (fun x y H Q => ∃ a v, x = .ref a ∧ DGet H a y (some v) ∧ Q v H) := by
  intro value slice pins s σ H x y v u Q I rx ry h hs
  obtain ⟨a, w, rfl, g, q⟩ := h
  obtain rfl : v = Value.ref a := rx
  exact tail_any (dict_typeIs I g) PySem.F.slot_dict_getitem.lookup (d_getItem hu I g ry fun w' s3 I3 rw' => ⟨w, H, I3, rw', q⟩) hs
theorem keyOf_ok {x : Val} {v : V} {k : Sum Int Str} (rx : RV X.K ρ H x v) (h : keyOf x = some k) : v = kV k := by
  cases rx <;> first | (cases h; done) | (cases h; rfl)
theorem ix_ok {x y : Val} {v u : V} (hu : X.A.units + 64 < cLine) (rs : RS X.K ρ H st) (rx : RV X.K ρ H x v) (ry : RV X.K ρ H y u) (h : PostV X.K ρ H (ixop x y st) Q) : WIx X v u H Q := by
  cases rx with
  | @tup xs a vs hs hv =>
    cases ry with
    | int k =>
      replace h : PostV X.K ρ H (match L2.atI xs k with | some v => .ok v st | none => .stuck) Q := h
      cases e : L2.atI xs k with
      | none => rw [e] at h; exact h.elim
      | some z =>
        rw [e] at h
        obtain ⟨w, h1, h2⟩ := hv.at_ e
        exact of_ix ix_tup ⟨a, vs, k, w, rfl, rfl, hs, h1, h.here rs h2⟩
    | _ => exact h.elim
  | str s =>
    cases ry with
    | int k =>
      replace h : PostV X.K ρ H (match L2.atI s.cps.toList k with | some c => need (s.length ≤ sizeLine) (.ok (.str ⟨#[c]⟩) st) | none => .stuck) Q := h
      cases e : L2.atI s.cps.toList k with
      | none => rw [e] at h; exact h.elim
      | some c =>
        rw [e] at h
        obtain ⟨hl, h⟩ := PostV.need h
        exact of_ix ix_str ⟨s, k, c, rfl, rfl, hl, e, h.here rs (.str _)⟩
    | _ => exact h.elim
  | @ref n a hn =>
    replace h : PostV X.K ρ H (match (st[n]?).bind fun c => ixCell c y with | some v => .ok v st | none => .stuck) Q := h
    cases e1 : st[n]? with
    | none => rw [e1] at h; exact h.elim
    | some c =>
      rw [e1] at h
      replace h : PostV X.K ρ H (match ixCell c y with | some v => .ok v st | none => .stuck) Q := h
      cases e : ixCell c y with
      | none => rw [e] at h; exact h.elim
      | some z =>
        rw [e] at h
        cases c with
        | lst xs =>
          cases ry with
          | int k =>
            obtain ⟨vs, h1, hv⟩ := rs.at_ e1 hn
            obtain ⟨w, h2, h3⟩ := hv.at_ e
            exact of_ix ix_list ⟨a, vs, k, w, rfl, rfl, SqL.of h1, h2, h.here rs h3⟩
          | _ => cases e
        | ro xs =>
          cases ry with
          | int k =>
            obtain ⟨vs, h1, hv⟩ := rs.list (st := st) (n := n) (xs := xs) (by unfold listAt; rw [e1]) hn
            obtain ⟨w, h2, h3⟩ := hv.at_ e
            exact of_ix ix_list ⟨a, vs, k, w, rfl, rfl, h1, h2, h.here rs h3⟩
          | _ => cases e
        | dict kvs =>
          have e : (keyOf y).bind (valK kvs) = some z := e
          cases ek : keyOf y with
          | none => rw [ek] at e; cases e
          | some kk =>
            rw [ek] at e
            have e : valK kvs kk = some z := e
            obtain ⟨ws, h1, hv⟩ := rs.at_ e1 hn
            rcases hv.val (k := kk) with ⟨z1, _⟩ | ⟨x', w, z1, z2, z3⟩
            · rw [z1] at e; cases e
            · rw [z1] at e; cases e
              have := keyOf_ok ry ek
              subst this
              exact of_ix (ix_dict (by omega)) ⟨a, w, rfl, by rw [← z2]; exact DGet.k h1, h.here rs z3⟩
        | inst _ _ => cases e
  | _ => exact h.elim
theorem sl_ok {x : Val} {v : V} {lo hi : Option Int} (rs : RS X.K ρ H st) (rx : RV X.K ρ H x v)
    (h : PostV X.K ρ H (sliceop x lo hi st) Q) : WSl X v lo hi H Q := by
  cases rx with
  | @tup xs a vs hs hv =>
    refine of_sl sl_tupA ⟨a, vs, rfl, hs, fun z => ?_, fun z p hp => PostV.newT (st := st) h rs (hv.cut lo hi) hp⟩
    have e : cut xs lo hi = xs := by
      unfold cut
      rw [hv.length, z.1, z.2, List.drop_zero, Nat.sub_zero, ← hv.length, List.take_length]
    replace h : PostV X.K ρ H (.ok (.tup (cut xs lo hi)) st) Q := h
    rw [e] at h
    exact h.here rs (.tup hs hv)
  | @ref n a hn =>
    replace h : PostV X.K ρ H (match listAt st n with
      | some xs => .ok (.ref st.length) (st ++ [.lst (cut xs lo hi)])
      | none => .stuck) Q := h
    cases e : listAt st n with
    | none => rw [e] at h; exact h.elim
    | some xs =>
      rw [e] at h
      obtain ⟨vs, h1, hv⟩ := rs.list e hn
      exact of_sl sl_list ⟨a, vs, rfl, h1, fun p hp => h.newL rs (hv.cut lo hi) hp⟩
  | _ => exact h.elim

/-! ### built-in functions -/
def biName : Bi → Str
  | .len => "len" | .abs => "abs" | .max => "max" | .min => "min" | .sum => "sum" | .all => "all" | .int => "int" | .str => "str" | .list => "list" | .tuple => "tuple"
def biVal : Bi → Value
  | .len => .builtin "len" | .abs => .builtin "abs" | .max => .builtin "max" | .min => .builtin "min" | .sum => .builtin "sum" | .all => .builtin "all" | .int => .type "int" | .str => .type "str" | .list => .type "list" | .tuple => .type "tuple"
theorem maxI_ok : ∀ {ns : List Int} {m k : Int}, maxI ns = some m → k ∈ ns → (∀ y ∈ ns, y ≤ k) → k = m := by
  intro ns m k h hk hl
  cases ns with
  | nil => cases h
  | cons x xs =>
    cases h
    have key : ∀ (xs : List Int) (a : Int), (∀ y ∈ a :: xs, y ≤ xs.foldl (fun a b => if b > a then b else a) a) ∧ xs.foldl (fun a b => if b > a then b else a) a ∈ a :: xs := by
      intro xs
      induction xs with
      | nil => intro a; simp
      | cons z zs ih =>
        intro a
        rw [List.foldl_cons]
        obtain ⟨i1, i2⟩ := ih (if z > a then z else a)
        refine ⟨fun y hy => ?_, ?_⟩
        · have i0 := i1 _ List.mem_cons_self
          have i3 : (if z > a then z else a) ≥ a ∧ (if z > a then z else a) ≥ z := by split <;> omega
          simp only [List.mem_cons] at hy
          rcases hy with e | e | e
          · subst e; omega
          · subst e; omega
          · exact i1 y (List.mem_cons_of_mem _ e)
        · simp only [List.mem_cons] at i2 ⊢
          rcases i2 with e | e
          · rw [e]; split
            · exact .inr (.inl rfl)
            · exact .inl rfl
          · exact .inr (.inr e)
    obtain ⟨k1, k2⟩ := key xs x
    have a1 := k1 k hk
    have a2 := hl _ k2
    omega
theorem minI_ok : ∀ {ns : List Int} {m k : Int}, minI ns = some m → k ∈ ns → (∀ y ∈ ns, k ≤ y) → k = m := by
  intro ns m k h hk hl
  cases ns with
  | nil => cases h
  | cons x xs =>
    cases h
    have key : ∀ (xs : List Int) (a : Int), (∀ y ∈ a :: xs, xs.foldl (fun a b => if b < a then b else a) a ≤ y) ∧ xs.foldl (fun a b => if b < a then b else a) a ∈ a :: xs := by
      intro xs
      induction xs with
      | nil => intro a; simp
      | cons z zs ih =>
        intro a
        rw [List.foldl_cons]
        obtain ⟨i1, i2⟩ := ih (if z < a then z else a)
        refine ⟨fun y hy => ?_, ?_⟩
        · have i0 := i1 _ List.mem_cons_self
          have i3 : (if z < a then z else a) ≤ a ∧ (if z < a then z else a) ≤ z := by split <;> omega
          simp only [List.mem_cons] at hy
          rcases hy with e | e | e
          · subst e; omega
          · subst e; omega
          · exact i1 y (List.mem_cons_of_mem _ e)
        · simp only [List.mem_cons] at i2 ⊢
          rcases i2 with e | e
          · rw [e]; split
            · exact .inr (.inl rfl)
            · exact .inl rfl
          · exact .inr (.inr e)
    obtain ⟨k1, k2⟩ := key xs x
    have a1 := k1 k hk
    have a2 := hl _ k2
    omega
theorem bi_ok {b : Bi} {xs : List Val} {vs : List V} (hc : X.calm = true) (rs : RS X.K ρ H st) (rx : RVs X.K ρ H xs vs) (h : PostV X.K ρ H (bifn b xs st) Q) : WCall X (biVal b) vs H Q := by
  cases rx with
  | nil => cases b <;> exact h.elim
  | @cons x v xs' vs' r1 rx' =>
    cases rx' with
    | cons r2 rx'' =>
      cases rx'' with
      | cons _ _ => cases b <;> first | exact h.elim | (cases r1 <;> first | exact h.elim | (cases r2 <;> exact h.elim))
      | nil =>
        cases b with
        | max =>
          cases r1 with
          | int i =>
            cases r2 with
            | int j => exact of_call (call_max2 hc) ⟨i, j, rfl, h.here rs (.int _)⟩
            | _ => exact h.elim
          | _ => exact h.elim
        | min =>
          cases r1 with
          | int i =>
            cases r2 with
            | int j => exact of_call (call_min2 hc) ⟨i, j, rfl, h.here rs (.int _)⟩
            | _ => exact h.elim
          | _ => exact h.elim
        | _ => cases r1 <;> first | exact h.elim | (cases r2 <;> exact h.elim)
    | nil =>
      cases b with
      | len =>
        cases r1 with
        | @tup xs a vs hs hv =>
          replace h : PostV X.K ρ H (.ok (.int xs.length) st) Q := h
          rw [hv.length] at h
          exact of_call call_len_seq ⟨a, vs, rfl, .inr hs, h.here rs (.int _)⟩
        | str s =>
          obtain ⟨hl, h⟩ := PostV.need h
          exact of_call call_len ⟨.str s, s.length, rfl, ⟨hl, rfl⟩, h.here rs (.int _)⟩
        | @ref n a hn =>
          replace h : PostV X.K ρ H (match listAt st n with | some xs => .ok (.int xs.length) st | none => .stuck) Q := h
          cases e : listAt st n with
          | none => rw [e] at h; exact h.elim
          | some xs =>
            rw [e] at h
            obtain ⟨vs, h1, hv⟩ := rs.list e hn
            replace h : PostV X.K ρ H (.ok (.int xs.length) st) Q := h
            rw [hv.length] at h
            exact of_call call_len_seq ⟨a, vs, rfl, .inl h1, h.here rs (.int _)⟩
        | _ => exact h.elim
      | abs =>
        cases r1 with
        | int i => exact of_call call_abs ⟨i, rfl, h.here rs (.int _)⟩
        | _ => exact h.elim
      | max =>
        cases r1 with
        | @ref n a hn =>
          replace h : PostV X.K ρ H (match (listAt st n).bind fun xs => (allInts xs).bind maxI with | some m => .ok (.int m) st | none => .stuck) Q := h
          cases e : listAt st n with
          | none => rw [e] at h; exact h.elim
          | some xs =>
            rw [e] at h
            replace h : PostV X.K ρ H (match (allInts xs).bind maxI with | some m => .ok (.int m) st | none => .stuck) Q := h
            cases e2 : allInts xs with
            | none => rw [e2] at h; exact h.elim
            | some ns =>
              rw [e2] at h
              replace h : PostV X.K ρ H (match maxI ns with | some m => .ok (.int m) st | none => .stuck) Q := h
              obtain ⟨vs, h1, hv⟩ := rs.list e hn
              cases e3 : maxI ns with
              | none => rw [e3] at h; exact h.elim
              | some m =>
                rw [e3] at h
                have hv2 := hv.ints e2
                subst hv2
                refine of_call (cr_max hc) ⟨a, ns, rfl, h1, ?_, fun k hk hl => ?_⟩
                · cases ns with
                  | nil => cases e3
                  | cons _ _ => simp
                · rw [maxI_ok e3 hk hl]; exact h.here rs (.int _)
        | _ => exact h.elim
      | min =>
        cases r1 with
        | @ref n a hn =>
          replace h : PostV X.K ρ H (match (listAt st n).bind fun xs => (allInts xs).bind minI with | some m => .ok (.int m) st | none => .stuck) Q := h
          cases e : listAt st n with
          | none => rw [e] at h; exact h.elim
          | some xs =>
            rw [e] at h
            replace h : PostV X.K ρ H (match (allInts xs).bind minI with | some m => .ok (.int m) st | none => .stuck) Q := h
            cases e2 : allInts xs with
            | none => rw [e2] at h; exact h.elim
            | some ns =>
              rw [e2] at h
              replace h : PostV X.K ρ H (match minI ns with | some m => .ok (.int m) st | none => .stuck) Q := h
              obtain ⟨vs, h1, hv⟩ := rs.list e hn
              cases e3 : minI ns with
              | none => rw [e3] at h; exact h.elim
              | some m =>
                rw [e3] at h
                have hv2 := hv.ints e2
                subst hv2
                refine of_call (cr_min hc) ⟨a, ns, rfl, h1, ?_, fun k hk hl => ?_⟩
                · cases ns with
                  | nil => cases e3
                  | cons _ _ => simp
                · rw [minI_ok e3 hk hl]; exact h.here rs (.int _)
        | _ => exact h.elim
      | sum =>
        cases r1 with
        | @ref n a hn =>
          replace h : PostV X.K ρ H (match (listAt st n).bind allInts with | some ns => .ok (.int ns.sum) st | none => .stuck) Q := h
          cases e : listAt st n with
          | none => rw [e] at h; exact h.elim
          | some xs =>
            rw [e] at h
            replace h : PostV X.K ρ H (match allInts xs with | some ns => .ok (.int ns.sum) st | none => .stuck) Q := h
            cases e2 : allInts xs with
            | none => rw [e2] at h; exact h.elim
            | some ns =>
              rw [e2] at h
              obtain ⟨vs, h1, hv⟩ := rs.list e hn
              have hv2 := hv.ints e2
              subst hv2
              exact of_call (cr_sum hc) ⟨a, ns, rfl, h1, h.here rs (.int _)⟩
        | _ => exact h.elim
      | all =>
        cases r1 with
        | @ref n a hn =>
          replace h : PostV X.K ρ H (match (listAt st n).bind allBools with | some ns => .ok (.bool (ns.all id)) st | none => .stuck) Q := h
          cases e : listAt st n with
          | none => rw [e] at h; exact h.elim
          | some xs =>
            rw [e] at h
            replace h : PostV X.K ρ H (match allBools xs with | some ns => .ok (.bool (ns.all id)) st | none => .stuck) Q := h
            cases e2 : allBools xs with
            | none => rw [e2] at h; exact h.elim
            | some ns =>
              rw [e2] at h
              obtain ⟨vs, h1, hv⟩ := rs.list e hn
              have hv2 := hv.bools e2
              subst hv2
              exact of_call (cr_all hc) ⟨a, ns, rfl, h1, h.here rs (.bool _)⟩
        | _ => exact h.elim
      | int =>
        cases r1 with
        | int i => exact of_call call_int1 (.inl ⟨i, rfl, h.here rs (.int _)⟩)
        | bool i => exact of_call call_int1 (.inr ⟨i, rfl, h.here rs (.int _)⟩)
        | str s =>
          replace h : PostV X.K ρ H (match PySem.intText? s with | some n => need (s.length ≤ 640) (.ok (.int n) st) | none => .stuck) Q := h
          cases e : PySem.intText? s with
          | none => rw [e] at h; exact h.elim
          | some n =>
            rw [e] at h
            obtain ⟨hl, h⟩ := PostV.need h
            exact of_call call_int_str ⟨s, n, rfl, e, hl, h.here rs (.int _)⟩
        | _ => exact h.elim
      | str => cases r1 <;> exact h.elim
      | list =>
        cases r1 with
        | @tup xs a vs hs hv => exact of_call call_list_of ⟨a, vs, rfl, .inr hs, fun l hl => PostV.newL h rs hv hl⟩
        | @ref n a hn =>
          replace h : PostV X.K ρ H (match listAt st n with | some xs => .ok (.ref st.length) (st ++ [.lst xs]) | none => .stuck) Q := h
          cases e : listAt st n with
          | none => rw [e] at h; exact h.elim
          | some xs =>
            rw [e] at h
            obtain ⟨vs, h1, hv⟩ := rs.list e hn
            exact of_call call_list_of ⟨a, vs, rfl, .inl h1, fun l hl => h.newL rs hv hl⟩
        | _ => exact h.elim
      | tuple =>
        cases r1 with
        | @tup xs a vs hs hv => exact of_call call_tuple_of ⟨a, vs, rfl, .inr ⟨hs, h.here rs (.tup hs hv)⟩⟩
        | @ref n a hn =>
          replace h : PostV X.K ρ H (match listAt st n with | some xs => .ok (.tup xs) st | none => .stuck) Q := h
          cases e : listAt st n with
          | none => rw [e] at h; exact h.elim
          | some xs =>
            rw [e] at h
            obtain ⟨vs, h1, hv⟩ := rs.list e hn
            exact of_call call_tuple_of ⟨a, vs, rfl, .inl ⟨h1, fun l hl => h.newT rs hv hl⟩⟩
        | _ => exact h.elim

/-! ### isinstance -/
def tyStr : Ty → Str
  | .int => "int" | .bool => "bool" | .str => "str" | .tuple => "tuple" | .list => "list"
def tyNm : Ty → String
  | .int => "int" | .bool => "bool" | .str => "str" | .tuple => "tuple" | .list => "list"
theorem tyX_tup {a : Addr} {vs : List V} (h : SqT X.K H a vs) : TyX X.K H (.ref a) (.type "tuple") := by
  rcases h with (h | ⟨o, h⟩) | ⟨o, its, n, h1, h2, _⟩
  · exact .base (.tup h)
  · exact .fTuple h
  · exact .kTuple h1 h2
theorem isi_ok {t : Ty} {x : Val} {v : V} {b : Bool} (rs : RS X.K ρ H st) (rx : RV X.K ρ H x v) (h : isInst t st x = some b) (q : Q (.bl b) H) : rIsi X.K [v, .ty (tyNm t)] H Q := by
  cases rx with
  | none => cases h; exact ⟨_, _, _, _, false, rfl, .ty _, .base .non, kit_ty (by cases t <;> decide +kernel), q⟩
  | bool c => cases h; exact ⟨_, _, _, _, _, rfl, .ty _, .base (.bl c), kit_ty (by cases t <;> decide +kernel), q⟩
  | int c => cases h; exact ⟨_, _, _, _, _, rfl, .ty _, .base (.int c), kit_ty (by cases t <;> decide +kernel), q⟩
  | str c => cases h; exact ⟨_, _, _, _, _, rfl, .ty _, .base (.str c), kit_ty (by cases t <;> decide +kernel), q⟩
  | tup hs hv => cases h; exact ⟨_, _, _, _, _, rfl, .ty _, tyX_tup hs, kit_ty (by cases t <;> decide +kernel), q⟩
  | @ref n a hn =>
    replace h : (match st[n]? with
      | some (.lst _) => some (decide (t = .list))
      | _ => none) = some b := h
    split at h
    · rename_i xs e
      cases h
      obtain ⟨vs, h1, _⟩ := rs.at_ e hn
      exact ⟨_, _, _, _, _, rfl, .ty _, .base (.lst h1), kit_ty (by cases t <;> decide +kernel), q⟩
    · cases h

/-! ### methods -/
def mtName : Mt → Str
  | .append => "append" | .extend => "extend" | .pop => "pop" | .count => "count" | .index => "index" | .get => "get"
def mtId : Mt → String
  | .append => "list.append" | .extend => "list.extend" | .pop => "list.pop" | .count => "list.count" | .index => "list.index" | .get => "dict.get"
def mtTy : Mt → String
  | .get => "dict"
  | _ => "list"
theorem mt_get (hu : X.A.units + 1 < cLine) : MtR X "dict.get" (fun x xs H Q => ∃ a y z o, x = .ref a ∧ xs = [y, z] ∧ DGet H a y o ∧ Q (o.getD z) H) := by
  intro pins s σ H x xs v us Q I rx rs h
  obtain ⟨a, y, z, o, rfl, rfl, g, q⟩ := h
  obtain rfl : v = Value.ref a := rx
  cases rs with
  | cons r1 rs =>
    cases rs with
    | cons r2 rs =>
      cases rs
      exact d_get2 hu I g r1 r2 fun w' s4 I4 rw' => ⟨_, H, I4, rw', q⟩
/-- the receiver is of the method's type -/
theorem mt_ty {m : Mt} {x : Val} {v : V} (rs : RS X.K ρ H st) (rx : RV X.K ρ H x v) (h : mtOk m x st = true) : tyV X.K (mtTy m) v H := by
  cases rx with
  | @ref n a hn =>
    have key : ∀ T, (listAt st n).isSome = true → T = "list" → tyV X.K T (.ref a) H := fun T h e => by
      obtain ⟨xs, e1⟩ := Option.isSome_iff_exists.mp h
      obtain ⟨vs, h1, _⟩ := rs.list e1 hn
      exact .inl ⟨e, vs, h1⟩
    cases m with
    | get =>
      have h : (match st[n]? with | some (.dict _) => true | _ => false) = true := h
      split at h
      · rename_i kvs e
        obtain ⟨ws, h1, _⟩ := rs.at_ e hn
        exact .inr (.inr (.inl ⟨rfl, .inl ⟨ws, h1⟩⟩))
      · cases h
    | _ => exact key _ h rfl
  | _ => cases h
theorem meth_ok {m : Mt} {x : Val} {v : V} {xs : List Val} {vs : List V} (hu : X.A.units + 64 < cLine) (rs : RS X.K ρ H st) (rx : RV X.K ρ H x v) (rl : RVs X.K ρ H xs vs) (h : PostV X.K ρ H (metop m x xs st) Q) : WMt X (mtId m) v vs H Q := by
  cases m with
  | append =>
    cases rx with
    | @ref n a hn =>
      cases rl with
      | nil => exact h.elim
      | @cons y u ys us r1 rl' =>
        cases rl' with
        | cons _ _ => exact h.elim
        | nil =>
          replace h : PostV X.K ρ H (match st[n]? with
            | some (.lst xs) => need (xs.length < sizeLine) (.ok .none (st.set n (.lst (xs ++ [y]))))
            | _ => .stuck) Q := h
          split at h
          · rename_i zs e
            obtain ⟨hl, h⟩ := PostV.need h
            obtain ⟨ws, h1, hv⟩ := rs.at_ e hn
            refine of_mt (show MtR X "list.append" rAppend from mt_append) ⟨a, ws, u, rfl, rfl, h1, by rw [← hv.length]; exact hl, ?_⟩
            have hg : Gr X.K H (upd H a (.lst (ws ++ [u]))) := Gr.write h1 (fun _ z => nomatch z) (fun _ _ z => nomatch z)
            exact h .non _ ρ Ex.refl hg (rs.write e hn rfl rfl hg ⟨_, upd_same, RVs.mono Ex.refl hg _ _ (hv.append (.cons r1 .nil))⟩) .none
          · exact h.elim
    | _ => exact h.elim
  | count =>
    cases rx with
    | @ref n a hn =>
      cases rl with
      | nil => exact h.elim
      | cons r1 rl' =>
        cases rl' with
        | cons _ _ => cases r1 <;> exact h.elim
        | nil =>
          cases r1 with
          | int k =>
            replace h : PostV X.K ρ H (match (listAt st n).bind allInts with | some ns => .ok (.int (ns.count k : Nat)) st | none => .stuck) Q := h
            cases e : listAt st n with
            | none => rw [e] at h; exact h.elim
            | some zs =>
              rw [e] at h
              replace h : PostV X.K ρ H (match allInts zs with | some ns => .ok (.int (ns.count k : Nat)) st | none => .stuck) Q := h
              cases e2 : allInts zs with
              | none => rw [e2] at h; exact h.elim
              | some ns =>
                rw [e2] at h
                obtain ⟨ws, h1, hv⟩ := rs.list e hn
                have hv2 := hv.ints e2
                subst hv2
                exact of_mt mt_lcount ⟨a, ns, k, rfl, rfl, h1, h.here rs (.int _)⟩
          | bool k =>
            replace h : PostV X.K ρ H (match listAt st n with | some xs => if xs.all flatB = true then .ok (.int ((xs.countP fun x => flatEq x (.bool k)) : Nat)) st else .stuck | none => .stuck) Q := h
            cases e : listAt st n with
            | none => rw [e] at h; exact h.elim
            | some zs =>
              rw [e] at h
              replace h : PostV X.K ρ H (if zs.all flatB = true then .ok (.int ((zs.countP fun x => flatEq x (.bool k)) : Nat)) st else .stuck) Q := h
              split at h
              · rename_i hf
                obtain ⟨ws, h1, hv⟩ := rs.list e hn
                have hc := hv.countF (.bool k) rfl hf
                refine of_mt mt_countF ⟨a, ws, .bl k, rfl, rfl, h1, rfl, hv.flat hf, ?_⟩
                rw [hc]
                exact h.here rs (.int _)
              · exact h.elim
          | _ => exact h.elim
    | _ => exact h.elim
  | pop =>
    cases rx with
    | @ref n a hn =>
      cases rl with
      | cons _ _ => exact h.elim
      | nil =>
        replace h : PostV X.K ρ H (match st[n]? with
          | some (.lst xs) => (match xs.getLast? with | some y => .ok y (st.set n (.lst xs.dropLast)) | none => .stuck)
          | _ => .stuck) Q := h
        split at h
        · rename_i zs e
          cases e2 : zs.getLast? with
          | none => rw [e2] at h; exact h.elim
          | some y =>
            rw [e2] at h
            obtain ⟨ws, h1, hv⟩ := rs.at_ e hn
            rw [List.getLast?_eq_getElem?] at e2
            obtain ⟨u, h2, h3⟩ := hv.get e2
            refine of_mt (show MtR X "list.pop" rPop from mt_pop) ⟨a, ws, u, rfl, rfl, h1, by rw [← hv.length]; exact h2, ?_⟩
            have hg : Gr X.K H (upd H a (.lst ws.dropLast)) := Gr.write h1 (fun _ z => nomatch z) (fun _ _ z => nomatch z)
            have hd : RVs X.K ρ H zs.dropLast ws.dropLast := by
              rw [List.dropLast_eq_take, List.dropLast_eq_take, hv.length]
              exact hv.take _
            exact h u _ ρ Ex.refl hg (rs.write e hn rfl rfl hg ⟨_, upd_same, RVs.mono Ex.refl hg _ _ hd⟩) (RV.mono Ex.refl hg _ _ h3)
        · exact h.elim
    | _ => exact h.elim
  | get =>
    cases rx with
    | @ref n a hn =>
      cases rl with
      | nil => exact h.elim
      | @cons y u ys us r1 rl' =>
        cases rl' with
        | nil => exact h.elim
        | @cons z t zs ts r2 rl'' =>
          cases rl'' with
          | cons _ _ => exact h.elim
          | nil =>
            replace h : PostV X.K ρ H (match st[n]?, keyOf y with
              | some (.dict kvs), some x => .ok ((valK kvs x).getD z) st
              | _, _ => .stuck) Q := h
            split at h
            · rename_i kvs k e1 e2
              obtain ⟨ws, h1, hv⟩ := rs.at_ e1 hn
              have := keyOf_ok r1 e2
              subst this
              refine of_mt (mt_get (by omega)) ⟨a, kV k, t, _, rfl, rfl, DGet.k h1, ?_⟩
              rcases hv.val (k := k) with ⟨z1, z2⟩ | ⟨x', w, z1, z2, z3⟩
              · rw [z2]; rw [z1] at h; exact h.here rs r2
              · rw [z2]; rw [z1] at h; exact h.here rs z3
            · exact h.elim
    | _ => exact h.elim
  | extend => cases rx <;> exact h.elim
  | index =>
    cases rx with
    | @ref n a hn =>
      cases rl with
      | nil => exact h.elim
      | @cons y u ys us r1 rl' =>
        cases rl' with
        | cons _ _ => exact h.elim
        | nil =>
          replace h : PostV X.K ρ H (match listAt st n with
            | some xs => if flatB y = true ∧ xs.all flatB = true then (match xs.findIdx? fun x => flatEq x y with | some j => Res.ok (Val.int (j : Nat)) st | none => .stuck) else .stuck
            | none => .stuck) Q := h
          cases e : listAt st n with
          | none => rw [e] at h; exact h.elim
          | some zs =>
            rw [e] at h
            replace h : PostV X.K ρ H (if flatB y = true ∧ zs.all flatB = true then (match zs.findIdx? fun x => flatEq x y with | some j => Res.ok (Val.int (j : Nat)) st | none => .stuck) else .stuck) Q := h
            by_cases c : flatB y = true ∧ zs.all flatB = true
            · rw [if_pos c] at h
              cases e2 : zs.findIdx? (fun x => Ev.flatEq x y) with
              | none => rw [e2] at h; exact h.elim
              | some j =>
                rw [e2] at h
                obtain ⟨ws, h1, hv⟩ := rs.list e hn
                obtain ⟨hj, hp, hno⟩ := List.findIdx?_eq_some_iff_getElem.mp e2
                have fz : ∀ (m : Nat) (hm : m < zs.length), flatB zs[m] = true := fun m hm => List.all_eq_true.mp c.2 _ (List.getElem_mem hm)
                obtain ⟨w, h2, h3⟩ := hv.get (List.getElem?_eq_getElem hj)
                refine of_mt mt_index ⟨a, ws, u, j, w, rfl, rfl, h1, r1.flat c.1, hv.flat c.2, h2, by rw [RV.flatEq h3 r1 (fz j hj) c.1]; exact hp, fun m z' hm hz' => ?_, h.here rs (.int _)⟩
                have hml : m < zs.length := by omega
                obtain ⟨w', h4, h5⟩ := hv.get (List.getElem?_eq_getElem hml)
                rw [hz'] at h4
                cases h4
                rw [RV.flatEq h5 r1 (fz m hml) c.1]
                have := hno m hm
                simpa using this
            · rw [if_neg c] at h; exact h.elim
    | _ => exact h.elim
end
end Ev

set_option Elab.async false
set_option linter.all false
set_option maxRecDepth 100000
set_option maxHeartbeats 4000000
set_option autoImplicit false
/-! ## A core expression stands for a text -/
namespace Ev
open PySem PySem.Spec PyProof.Rows L2

def visB (sc : Scope) (x : Str) : Bool := match sc.names.lookup x with | some .local => true | some .cell => true | some .free => true | _ => false
def locB (sc : Scope) (x : Str) : Bool := match sc.names.lookup x with | some .local => true | some .cell => true | _ => false
def glB (sc : Scope) (x : Str) : Bool := match sc.names.lookup x with | some .globalImplicit => true | _ => false
def okNm (x : Str) : Bool := !(x == ("__debug__" : Str)) && (!(x == ("__classdict__" : Str)) && !(x == ("__name__" : Str)))
/-- what may stand as an argument, a subscript -/
def plainX : Expr → Bool
  | .Starred _ _ => false
  | .Slice _ _ _ _ => false
  | .Set _ _ _ => false
  | _ => true
/-- what may stand ahead of a method's dot -/
def noSuper : Expr → Bool
  | .Call _ _ _ _ => false
  | _ => true
def isAndC : CE → Bool
  | .and1 _ => true
  | .and2 _ _ => true
  | _ => false
def isOrC : CE → Bool
  | .or1 _ => true
  | .or2 _ _ => true
  | _ => false

def isOpt (b : Bool) (f : Expr → Bool) : Option Expr → Bool
  | none => b
  | some e => f e
mutual
def isE (N : List Str) : CE → Scope → Expr → Bool
  | .var i, sc, e => (match e with | .Name x _ => decide (N[i]? = some x) && (visB sc x && okNm x) | _ => false)
  | .none_, _, e => (match e with | .Constant .none _ _ => true | _ => false)
  | .bool_ b, _, e => (match e with | .Constant (.bool c) _ _ => decide (b = c) | _ => false)
  | .int_ i, _, e => (match e with | .Constant (.int j) _ _ => decide (i = j) | _ => false)
  | .str_ s, _, e => (match e with | .Constant (.str t) _ _ => decide (s = t) | _ => false)
  | .glob x, sc, e => (match e with | .Name y _ => decide (x = y) && (glB sc y && okNm y) | _ => false)
  | .nil, _, _ => false
  | .cons _ _, _, _ => false
  | .kv _ _ _, _, _ => false
  | .tup args, sc, e => (match e with | .Tuple es _ _ => isEs N args sc es | _ => false)
  | .lst args, sc, e => (match e with | .List es _ => isEs N args sc es | _ => false)
  | .bin op a b, sc, e => (match e with | .BinOp x o y _ => decide (o = opOf op) && (isE N a sc x && isE N b sc y) | _ => false)
  | .neg a, sc, e => (match e with | .UnaryOp .USub x _ => isE N a sc x | _ => false)
  | .cmp op a b, sc, e => (match e with | .Compare x [o] [y] _ => decide (o = cmpOf op) && (plainX y && (isE N a sc x && isE N b sc y)) | _ => false)
  | .chain op op' a b c, sc, e => (match e with | .Compare x [o, o'] [y, z] _ => decide (o = cmpOf op) && (decide (o' = cmpOf op') && (plainX z && (isE N a sc x && (isE N b sc y && isE N c sc z)))) | _ => false)
  | .and1 a, sc, e => (match e with | .BoolOp .And [x] _ => isE N a sc x | _ => false)
  | .and2 a r, sc, e => (match e with | .BoolOp .And (x :: y :: rest) pos => isAndC r && (isE N a sc x && isE N r sc (.BoolOp .And (y :: rest) pos)) | _ => false)
  | .or1 a, sc, e => (match e with | .BoolOp .Or [x] _ => isE N a sc x | _ => false)
  | .or2 a r, sc, e => (match e with | .BoolOp .Or (x :: y :: rest) pos => isOrC r && (isE N a sc x && isE N r sc (.BoolOp .Or (y :: rest) pos)) | _ => false)
  | .not_ a, sc, e => (match e with | .UnaryOp .Not x _ => isE N a sc x | _ => false)
  | .ifx c a b, sc, e => (match e with | .IfExp z x y _ => isE N c sc z && (isE N a sc x && isE N b sc y) | _ => false)
  | .ix a i, sc, e => (match e with | .Subscript x y _ => plainX y && (isE N a sc x && isE N i sc y) | _ => false)
  | .slice a lo hi, sc, e => (match e with
    | .Subscript x (.Slice l h none _) _ => isE N a sc x && (isOpt (isNil lo) (isE N lo sc) l && isOpt (isNil hi) (isE N hi sc) h)
    | _ => false)
  | .rev a, sc, e => (match e with
    | .Subscript x (.Slice none none (some (.UnaryOp .USub (.Constant (.int 1) _ _) _)) _) _ => isE N a sc x
    | _ => false)
  | .call f args, sc, e => (match e with | .Call (.Name x _) es [] _ => decide (x = f) && (glB sc x && (okNm x && isEs N args sc es)) | _ => false)
  | .bi b args, sc, e => (match e with | .Call (.Name x _) es [] _ => decide (x = biName b) && (glB sc x && (!es.isEmpty && isEs N args sc es)) | _ => false)
  | .isi t a, sc, e => (match e with | .Call (.Name x _) [y, .Name z _] [] _ => decide (x = "isinstance") && (glB sc x && (decide (z = tyStr t) && (glB sc z && (plainX y && isE N a sc y)))) | _ => false)
  | .meth m o args, sc, e => (match e with | .Call (.Attribute x nm ap) es [] cp => decide (nm = mtName m) && ((ap.endLine == cp.line) && (noSuper x && (decide (es.length < 20) && (isE N o sc x && isEs N args sc es)))) | _ => false)
  | .comp k i src cond elt, sc, e => (match e with
    | .ListComp el [⟨.Name y _, it, ifs, 0⟩] scope _ => blkC N sc scope [(y, i)] && (decide (N[i]? = some y) && (decide ((relS scope sc).names.lookup y = some .local) && (plainX it && ((match k with
        | .seq => isE N src sc it
        | .range => (match it with | .Call (.Name x _) [z] [] _ => decide (x = "range") && (glB sc x && isEs N src sc [z]) | _ => false)) && ((match ifs with
        | [] => isNil cond
        | [t] => isE N cond (relS scope sc) t
        | _ => false) && isE N elt (relS scope sc) el)))))
    | _ => false)
  | .isx c a, sc, e => (match e with | .Call (.Name x _) [y, .Name z _] [] _ => decide (x = "isinstance") && (glB sc x && (decide (z = c) && (glB sc z && (decide (c ∈ excAll) && (plainX y && isE N a sc y))))) | _ => false)
  | .fld f a, sc, e => (match e with | .Attribute (.Name y p) g _ => decide (g = f) && isE N a sc (.Name y p) | _ => false)
  | .dict ps, sc, e => (match e with | .Dict ks vs _ => decide (ks ≠ []) && (decide (ks.length ≤ 15) && isPs N ps sc ks vs) | _ => false)
def isEs (N : List Str) : CE → Scope → List Expr → Bool
  | .nil, _, es => es.isEmpty
  | .cons a r, sc, es => (match es with | x :: es => plainX x && (isE N a sc x && isEs N r sc es) | [] => false)
  | _, _, _ => false
def isPs (N : List Str) : CE → Scope → List (Option Expr) → List Expr → Bool
  | .nil, _, ks, vs => ks.isEmpty && vs.isEmpty
  | .kv k v r, sc, ks, vs => (match ks, vs with | some x :: ks, y :: vs => isE N k sc x && (isE N v sc y && isPs N r sc ks vs) | _, _ => false)
  | _, _, _, _ => false
end

/-! ### the context -/
/-- what a def promises: what the evaluator answers -/
def spOf (K : PySem.W.Frag) (F : Fns) (f : Str) : Sp := fun vs H Q E => ∃ (args : List Val) (st : Store) (ρ : List Addr), RVs K ρ H args vs ∧ RS K ρ H st ∧ (PostV K ρ H (F.fn f args st) Q ∨ PostX K ρ H (F.fn f args st) E)
def freeNames : List Str := ["len", "abs", "max", "min", "sum", "all", "int", "str", "list", "tuple", "isinstance", "bool", "range"]
/-- the errors' classes as they stand in the text -/
structure ExOk (K : PySem.W.Frag) (mg : Str → Option Value) : Prop where
  ns : ∀ (c : Str), c = "Over" ∨ c ∈ exc0 → PySem.W.nsIn K mainGlobals c = some (some (.ref (cA K c)))
  gl : ∀ (c : Str), c = "ScoreError" ∨ c = "Over" ∨ c ∈ exc0 → mg c = some (.ref (cA K c))
  ve : mg "ValueError" = none
  isC : ∀ (c : Str), c = "Over" ∨ c ∈ exc0 → ExcC K (cA K c)
  exm : ∀ (c : Str), c = "Over" ∨ c ∈ exc0 → PySem.W.exmOne K (.ref (cA K c)) (.ref (cA K "ScoreError")) = some true
  kit : ∀ (c c' : Str), c = "Over" ∨ c ∈ exc0 → c' = "ScoreError" ∨ c' = "Over" ∨ c' ∈ exc0 → PySem.W.kitOne K (.ref (cA K c)) (.ref (cA K c')) = some (excSub c c')
  kitV : ∀ (c : Str), c = "Over" ∨ c ∈ exc0 → PySem.W.kitOne K (.ref (cA K c)) (.type "ValueError") = some true
  mke : ∀ c ∈ exc0, PySem.W.excIn K (cA K c) PySem.HandSPX.veTail "ValueError.__new__" = true ∧ PySem.W.keepIn K (.ref (cA K c)) = true ∧ PySem.W.subIn K (.ref (cA K c)) (.type "BaseException") = some true ∧ PySem.W.typeIn K (.ref (cA K c)) = some (.type "type")
  over : ∃ fI, PySem.OverX.OverTxt K mg (cA K "Over") fI
structure Good (X : Cx) (N : List Str) (sc : Scope) (F : Fns) (k : Nat) : Prop where
  hN : X.N = N
  hsc : X.env.scope = sc
  nd : N.Nodup
  calm : X.calm = true
  room : Room k X.A
  pass : PassesOwn (model X.prog X.w) X.A X.env X.xe
  fns : ∀ f, ((∃ args st, F.fn f args st ≠ .stuck) ∨ F.has f = true) → ∃ (a : Addr) (fd : FuncData) (ps : List Str), X.mg f = some (.ref a) ∧ PySem.W.keepIn X.K (.ref a) = true ∧ Binds X.K fd ps [] ∧ FnOk X.prog X.w X.K X.mg X.base (L2.CX X.prog X.w) k a fd ps (spOf X.K F f)
  exc : F.fuel % 2 = 1 → ExOk X.K X.mg
  gl : ∀ x v, F.glob x = some v → ∃ (u : V) (w : Value), X.mg x = some w ∧ RelV u w ∧ ∀ ρ H, RV X.K ρ H v u
  free : ∀ x ∈ freeNames, X.mg x = none

section
variable {X : Cx} {N : List Str} {sc : Scope} {F : Fns} {k : Nat}
theorem Good.units (G : Good X N sc F k) : X.A.units + 64 < cLine := G.room.units
theorem Good.vis (G : Good X N sc F k) {x : Str} (h : visB sc x = true) : Vis X.env.scope x := by
  unfold Vis
  rw [G.hsc]
  unfold visB at h
  split at h
  · exact .inl (by assumption)
  · exact .inr (.inl (by assumption))
  · exact .inr (.inr (by assumption))
  · cases h
theorem Good.loc (G : Good X N sc F k) {x : Str} (h : locB sc x = true) : L2.Loc X.env.scope x := by
  unfold L2.Loc
  rw [G.hsc]
  unfold locB at h
  split at h
  · exact .inl (by assumption)
  · exact .inr (by assumption)
  · cases h
theorem Good.glo (G : Good X N sc F k) {x : Str} (h : glB sc x = true) : Gl X x := by
  show X.env.scope.names.lookup x = some .globalImplicit
  rw [G.hsc]
  unfold glB at h
  split at h
  · assumption
  · cases h
theorem okNm1 {x : Str} (h : okNm x = true) : (x == ("__debug__" : Str)) = false := by
  unfold okNm at h
  simp only [Bool.and_eq_true, Bool.not_eq_true'] at h
  exact h.1
theorem okNm2 {x : Str} (h : okNm x = true) : (x == ("__classdict__" : Str)) = false := by
  unfold okNm at h
  simp only [Bool.and_eq_true, Bool.not_eq_true'] at h
  exact h.2.1
theorem Good.blk (G : Good X N sc F k) {scope : Scope} (s : Shared) (H : Hp) (C : Addr) (cl : List (Str × Addr)) (fp : List Addr) (i : Nat) (y : Str) (hb : blkC N sc scope [(y, i)] = true) :
    Good (X.blk s H scope (compEnvC scope cl C X.env) fp) N (relS scope sc) F k := by
  refine ⟨G.hN, ?_, G.nd, G.calm, G.room, PassesOwn.never, G.fns, G.exc, G.gl, G.free⟩
  show relS scope X.env.scope = _
  rw [G.hsc]
end

/-! ### soundness of expressions -/
def SE (X : Cx) (F : Fns) (c : CE) (e : Expr) : Prop := ∀ (env : Env) (st : Store) (σ : L2.St) (H : Hp) (ρ : List Addr) (Q : VK), RE X.K ρ H env σ → RS X.K ρ H st → PostV X.K ρ H (evalE F c env st) Q → WE X e σ H Q
def STs (X : Cx) (F : Fns) (c : CE) (e : Expr) : Prop := ∀ (env : Env) (st : Store) (σ : L2.St) (H : Hp) (ρ : List Addr) (Q : Bool → Hp → Prop), RE X.K ρ H env σ → RS X.K ρ H st → PostB X.K ρ H ((evalE F c env st).bind testV) Q → WT X e σ H Q
def SW (X : Cx) (F : Fns) (c : CE) (e : Expr) : Prop := ∀ (env : Env) (st : Store) (σ : L2.St) (H : Hp) (ρ : List Addr) (Q : Bool → Hp → Prop), RE X.K ρ H env σ → RS X.K ρ H st → PostB X.K ρ H ((evalE F c env st).bind testV) Q → WW X e σ H Q
def SA (X : Cx) (F : Fns) (c : CE) (es : List Expr) : Prop := ∀ (env : Env) (st : Store) (σ : L2.St) (H : Hp) (ρ : List Addr) (Q : List V → Hp → Prop), RE X.K ρ H env σ → RS X.K ρ H st → PostL X.K ρ H (evalE F c env st) Q → WA X es σ H Q
def SPr (X : Cx) (F : Fns) (c : CE) (ks : List (Option Expr)) (vs : List Expr) : Prop := ∀ (pos : Pos), ∃ trs, PPs X pos ks vs trs ∧ ∀ (env : Env) (st : Store) (σ : L2.St) (H : Hp) (ρ : List Addr) (Q : List (V × V) → Hp → Prop), RE X.K ρ H env σ → RS X.K ρ H st →
  (match evalE F c env st with
  | .ok (.tup xs) st' => ∀ (ps : List (V × V)) (H' : Hp) (ρ' : List Addr), Ex ρ ρ' → Gr X.K H H' → RS X.K ρ' H' st' → RVs X.K ρ' H' xs (ps.flatMap fun p => [p.1, p.2]) → Q ps H'
  | _ => False) → tPairs trs σ H Q

section
variable {X : Cx} {N : List Str} {sc : Scope} {F : Fns} {k : Nat} {c : CE} {e : Expr}
theorem testV_ok {K : PySem.W.Frag} {ρ : List Addr} {H : Hp} {v : Val} {st : Store} {Q : Bool → Hp → Prop} (h : PostB K ρ H (testV v st) Q) : ∃ b, truth st v = some b ∧ PostB K ρ H (.ok b st) Q := by
  unfold testV at h
  split at h
  · exact ⟨_, by assumption, h⟩
  · exact h.elim
theorem se_st (h : SE X F c e) (he : ∀ whole, isTrue e X.env whole = (do let v ← whole; standAt e.pos; holding [v] (truthy v))) : STs X F c e := by
  intro env st σ H ρ Q re rs hp
  obtain ⟨v, s1, e1, hp⟩ := hp.bnd
  obtain ⟨b, e2, hp⟩ := testV_ok hp
  refine of_pt (pt_truth WE.pe he) (h env st σ H ρ _ re rs ?_)
  rw [e1]
  exact fun V H' ρ' a b' c' d => ⟨b, truth_ok c' d e2, hp H' ρ' a b' c'⟩
/-- use of an expression: its value, then what follows -/
theorem se_use (h : SE X F c e) {env : Env} {st s1 : Store} {v : Val} {σ : L2.St} {H : Hp} {ρ : List Addr} {Q : VK} (re : RE X.K ρ H env σ) (rs : RS X.K ρ H st) (e1 : evalE F c env st = .ok v s1)
    (hq : ∀ V H' ρ', Ex ρ ρ' → Gr X.K H H' → RS X.K ρ' H' s1 → RE X.K ρ' H' env σ → RV X.K ρ' H' v V → Q V H') : WE X e σ H Q := by
  refine h env st σ H ρ Q re rs ?_
  rw [e1]
  exact fun V H' ρ' a b c d => hq V H' ρ' a b c (re.mono a b) d
theorem sa_use {es : List Expr} (h : SA X F c es) {env : Env} {st s1 : Store} {xs : List Val} {σ : L2.St} {H : Hp} {ρ : List Addr} {Q : List V → Hp → Prop} (re : RE X.K ρ H env σ) (rs : RS X.K ρ H st) (e1 : evalE F c env st = .ok (.tup xs) s1)
    (hq : ∀ vs H' ρ', Ex ρ ρ' → Gr X.K H H' → RS X.K ρ' H' s1 → RE X.K ρ' H' env σ → RVs X.K ρ' H' xs vs → Q vs H') : WA X es σ H Q := by
  refine h env st σ H ρ Q re rs ?_
  rw [e1]
  exact fun V H' ρ' a b c d => hq V H' ρ' a b c (re.mono a b) d
theorem st_use (h : STs X F c e) {env : Env} {st s1 : Store} {v : Val} {b : Bool} {σ : L2.St} {H : Hp} {ρ : List Addr} {Q : Bool → Hp → Prop} (re : RE X.K ρ H env σ) (rs : RS X.K ρ H st) (e1 : evalE F c env st = .ok v s1) (e2 : truth s1 v = some b)
    (hq : ∀ H' ρ', Ex ρ ρ' → Gr X.K H H' → RS X.K ρ' H' s1 → RE X.K ρ' H' env σ → Q b H') : WT X e σ H Q := by
  refine h env st σ H ρ Q re rs ?_
  rw [e1]
  show PostB X.K ρ H (testV v s1) Q
  unfold testV
  rw [e2]
  exact fun H' ρ' a b c => hq H' ρ' a b c (re.mono a b)
theorem plain_star {x : Expr} {es : List Expr} {env : PySem.Env} (h : plainX x = true) : starEach (x :: es) env = (false, eval x env) :: starEach es env := by
  cases x <;> first | rfl | cases h
theorem isEs_plain : ∀ {args : CE} {es : List Expr}, isEs N args sc es = true → es.all plainX = true
  | .nil, es, h => by
    cases es with
    | nil => rfl
    | cons _ _ => cases h
  | .cons a r, es, h => by
    cases es with
    | nil => cases h
    | cons x es =>
      have h : (plainX x && (isE N a sc x && isEs N r sc es)) = true := h
      simp only [Bool.and_eq_true] at h
      rw [List.all_cons, h.1, isEs_plain h.2.2]; rfl
  | .var _, _, h | .none_, _, h | .bool_ _, _, h | .int_ _, _, h | .str_ _, _, h | .glob _, _, h | .tup _, _, h | .lst _, _, h | .bin _ _ _, _, h | .neg _, _, h | .cmp _ _ _, _, h | .chain _ _ _ _ _, _, h | .and1 _, _, h | .and2 _ _, _, h | .or1 _, _, h | .or2 _ _, _, h | .not_ _, _, h | .ifx _ _ _, _, h | .ix _ _, _, h | .slice _ _ _, _, h | .rev _, _, h | .call _ _, _, h | .bi _ _, _, h | .isi _ _, _, h | .meth _ _ _, _, h | .comp _ _ _ _ _, _, h | .kv _ _ _, _, h | .dict _, _, h => by
    simp [isEs] at h
theorem plain_any {env : PySem.Env} {pos : Pos} : ∀ {es : List Expr}, es.all plainX = true → (backTo pos (starEach es env)).any (·.1) = false
  | [], _ => rfl
  | x :: es, h => by
    rw [List.all_cons, Bool.and_eq_true] at h
    rw [plain_star h.1]
    show (false || (backTo pos (starEach es env)).any (·.1)) = false
    rw [plain_any h.2]; rfl
theorem plain_all {env : PySem.Env} {pos : Pos} : ∀ {es : List Expr}, es.all plainX = true → (backTo pos (starEach es env)).all (fun x => !x.1) = true
  | [], _ => rfl
  | x :: es, h => by
    rw [List.all_cons, Bool.and_eq_true] at h
    rw [plain_star h.1]
    show (true && (backTo pos (starEach es env)).all (fun x => !x.1)) = true
    rw [plain_all h.2]; rfl
theorem plain_ix {x : Expr} (h : plainX x = true) : PlainIx x := by
  intro o i
  cases x <;> first | rfl | cases h
theorem plain_mark {x : Expr} {op : CmpOp} (h : plainX x = true) : behindInMarks op x = false := by
  cases x <;> first | rfl | cases h
theorem plain_fold {x : Expr} {env : PySem.Env} (h : plainX x = true) : ∀ v, foldedSetIterable x env v = pure v := by
  intro v
  cases x <;> first | rfl | cases h
theorem noSuper_base {x : Expr} {nm : Str} {env : PySem.Env} {w : Sem Value} (h : noSuper x = true) : attributeBase x nm env w = w := by
  cases x <;> first | rfl | cases h
end
end Ev

set_option Elab.async false
set_option linter.all false
set_option maxRecDepth 100000
set_option maxHeartbeats 4000000
/-! ## Soundness of expressions, construct by construct -/
namespace Ev
open PySem PySem.Spec PyProof.Rows L2

structure Snd (F : Fns) (k : Nat) (c : CE) : Prop where
  e : ∀ {X : Cx} {N : List Str} {sc : Scope} (G : Good X N sc F k) {x : Expr}, isE N c sc x = true → SE X F c x
  t : ∀ {X : Cx} {N : List Str} {sc : Scope} (G : Good X N sc F k) {x : Expr}, isE N c sc x = true → STs X F c x
  w : ∀ {X : Cx} {N : List Str} {sc : Scope} (G : Good X N sc F k) {x : Expr}, isE N c sc x = true → (isAndC c || isOrC c) = true → SW X F c x
  a : ∀ {X : Cx} {N : List Str} {sc : Scope} (G : Good X N sc F k) {es : List Expr}, isEs N c sc es = true → SA X F c es
  p : ∀ {X : Cx} {N : List Str} {sc : Scope} (G : Good X N sc F k) {ks : List (Option Expr)} {vs : List Expr}, isPs N c sc ks vs = true → SPr X F c ks vs ∧ ks.all (·.isSome) = true ∧ ks.length = vs.length

section
variable {F : Fns} {k : Nat}
/-- an expression whose test is its value's truth -/
theorem snd_val {c : CE} (he : ∀ {X : Cx} {N : List Str} {sc : Scope} (G : Good X N sc F k) {x : Expr}, isE N c sc x = true → SE X F c x)
    (ht : ∀ (N : List Str) (sc : Scope) (x : Expr) (env : PySem.Env), isE N c sc x = true → ∀ whole, isTrue x env whole = (do let v ← whole; standAt x.pos; holding [v] (truthy v)))
    (hw : (isAndC c || isOrC c) = false) (ha : ∀ N sc es, isEs N c sc es = false) (hp : ∀ N sc ks vs, isPs N c sc ks vs = false) : Snd F k c where
  e := he
  t := fun {_ _ _} G {_} h => se_st (he G h) (ht _ _ _ _ h)
  w := fun {_ _ _} G {_} h z => by rw [hw] at z; cases z
  a := fun {_ _ _} G {_} h => by rw [ha] at h; cases h
  p := fun {_ _ _} G {_ _} h => by rw [hp] at h; cases h

theorem s_var (i : Nat) : Snd F k (.var i) := by
  refine snd_val (fun {X N sc} G {x} h => ?_) (fun N sc x env h => by cases x <;> first | (intro _; rfl) | cases h) rfl (fun _ _ _ => rfl) (fun _ _ _ _ => rfl)
  intro env st σ H ρ Q re rs hp
  cases x with
  | Name y p =>
    have h : (decide (N[i]? = some y) && (visB sc y && okNm y)) = true := h
    simp only [Bool.and_eq_true, decide_eq_true_eq] at h
    obtain ⟨h1, h2, h3⟩ := h
    have hp : PostV X.K ρ H (match env[i]? with | some (some v) => .ok v st | _ => .stuck) Q := hp
    split at hp
    · rename_i v e
      obtain ⟨u, e1, e2⟩ := re.at_ i v e
      exact of_pe (pe_var (i := i) (by rw [G.hN]; exact h1) (G.vis h2) (okNm1 h3) (okNm2 h3)) ⟨u, e1, hp.here rs e2⟩
    · exact hp.elim
  | _ => cases h
theorem s_none : Snd F k .none_ := by
  refine snd_val (fun {X N sc} G {x} h => ?_) (fun N sc x env h => by cases x <;> first | (intro _; rfl) | cases h) rfl (fun _ _ _ => rfl) (fun _ _ _ _ => rfl)
  intro env st σ H ρ Q re rs hp
  cases x with
  | Constant c j p =>
    cases c with
    | none => exact of_pe pe_non (PostV.here hp rs .none)
    | _ => cases h
  | _ => cases h
theorem s_bool (b : Bool) : Snd F k (.bool_ b) := by
  refine snd_val (fun {X N sc} G {x} h => ?_) (fun N sc x env h => by cases x <;> first | (intro _; rfl) | cases h) rfl (fun _ _ _ => rfl) (fun _ _ _ _ => rfl)
  intro env st σ H ρ Q re rs hp
  cases x with
  | Constant c j p =>
    cases c with
    | bool d =>
      have h : decide (b = d) = true := h
      have h := of_decide_eq_true h
      subst h
      exact of_pe pe_bl (PostV.here hp rs (.bool _))
    | _ => cases h
  | _ => cases h
theorem s_int (i : Int) : Snd F k (.int_ i) := by
  refine snd_val (fun {X N sc} G {x} h => ?_) (fun N sc x env h => by cases x <;> first | (intro _; rfl) | cases h) rfl (fun _ _ _ => rfl) (fun _ _ _ _ => rfl)
  intro env st σ H ρ Q re rs hp
  cases x with
  | Constant c j p =>
    cases c with
    | int d =>
      have h : decide (i = d) = true := h
      have h := of_decide_eq_true h
      subst h
      exact of_pe pe_int (PostV.here hp rs (.int _))
    | _ => cases h
  | _ => cases h
theorem s_str (s : Str) : Snd F k (.str_ s) := by
  refine snd_val (fun {X N sc} G {x} h => ?_) (fun N sc x env h => by cases x <;> first | (intro _; rfl) | cases h) rfl (fun _ _ _ => rfl) (fun _ _ _ _ => rfl)
  intro env st σ H ρ Q re rs hp
  cases x with
  | Constant c j p =>
    cases c with
    | str d =>
      have h : decide (s = d) = true := h
      have h := of_decide_eq_true h
      subst h
      exact of_pe pe_str (PostV.here hp rs (.str _))
    | _ => cases h
  | _ => cases h
theorem s_glob (y : Str) : Snd F k (.glob y) := by
  refine snd_val (fun {X N sc} G {x} h => ?_) (fun N sc x env h => by cases x <;> first | (intro _; rfl) | cases h) rfl (fun _ _ _ => rfl) (fun _ _ _ _ => rfl)
  intro env st σ H ρ Q re rs hp
  cases x with
  | Name z p =>
    have h : (decide (y = z) && (glB sc z && okNm z)) = true := h
    simp only [Bool.and_eq_true, decide_eq_true_eq] at h
    obtain ⟨h1, h2, h3⟩ := h
    subst h1
    have hp : PostV X.K ρ H (match F.glob y with | some v => .ok v st | none => .stuck) Q := hp
    cases e : F.glob y with
    | none => rw [e] at hp; exact hp.elim
    | some v =>
      rw [e] at hp
      obtain ⟨u, w, g1, g2, g3⟩ := G.gl y v e
      exact of_pe (pe_glob (G.glo h2) g1 g2 (okNm1 h3)) (PostV.here hp rs (g3 ρ H))
  | _ => cases h
/-- arguments -/
theorem s_nil : Snd F k .nil where
  e := fun {_ _ _} G {_} h => by cases h
  t := fun {_ _ _} G {_} h => by cases h
  w := fun {_ _ _} G {_} h z => by cases z
  a := fun {X N sc} G {es} h => by
    intro env st σ H ρ Q re rs hp
    cases es with
    | nil => exact of_pa pa_nil (hp [] H ρ Ex.refl Gr.refl rs .nil)
    | cons _ _ => cases h
  p := fun {X N sc} G {ks vs} h => by
    cases ks with
    | cons _ _ => cases h
    | nil =>
      cases vs with
      | cons _ _ => cases h
      | nil =>
        refine ⟨fun pos => ⟨[], pps_nil, fun env st σ H ρ Q re rs hp => ?_⟩, rfl, rfl⟩
        exact hp [] H ρ Ex.refl Gr.refl rs .nil
theorem s_cons {a r : CE} (ha : Snd F k a) (hr : Snd F k r) : Snd F k (.cons a r) where
  e := fun {_ _ _} G {_} h => by cases h
  t := fun {_ _ _} G {_} h => by cases h
  w := fun {_ _ _} G {_} h z => by cases z
  a := fun {X N sc} G {es} h => by
    intro env st σ H ρ Q re rs hp
    cases es with
    | nil => cases h
    | cons x es =>
      have h : (plainX x && (isE N a sc x && isEs N r sc es)) = true := h
      simp only [Bool.and_eq_true] at h
      obtain ⟨v, s1, e1, hp⟩ := PostL.bndX (r := evalE F a env st) hp
      obtain ⟨w, s2, e2, hp⟩ := PostL.bndX (r := evalE F r env s1) hp
      cases w with
      | tup xs =>
        refine of_pa (pa_cons WE.pe WA.pa (plain_star h.1)) ?_
        refine se_use (ha.e G h.2.1) re rs e1 fun V H1 ρ1 x1 g1 rs1 re1 rv1 => ?_
        refine sa_use (hr.a G h.2.2) re1 rs1 e2 fun vs H2 ρ2 x2 g2 rs2 re2 rv2 => ?_
        exact hp (V :: vs) H2 ρ2 (x1.trans x2) (g1.trans g2) rs2 (.cons (RV.mono x2 g2 _ _ rv1) rv2)
      | _ => exact hp.elim
  p := fun {_ _ _} G {_ _} h => by cases h
theorem RVs.flat2 {K : PySem.W.Frag} {ρ : List Addr} {H : Hp} {x y : Val} {v u : V} {xs : List Val} {ps : List (V × V)} (a : RV K ρ H x v) (b : RV K ρ H y u) (c : RVs K ρ H xs (ps.flatMap fun p => [p.1, p.2])) :
    RVs K ρ H (x :: y :: xs) (((v, u) :: ps).flatMap fun p => [p.1, p.2]) := .cons a (.cons b c)
theorem s_kv {a b r : CE} (ha : Snd F k a) (hb : Snd F k b) (hr : Snd F k r) : Snd F k (.kv a b r) where
  e := fun {_ _ _} G {_} h => by cases h
  t := fun {_ _ _} G {_} h => by cases h
  w := fun {_ _ _} G {_} h z => by cases z
  a := fun {_ _ _} G {_} h => by cases h
  p := fun {X N sc} G {ks vs} h => by
    cases ks with
    | nil => cases h
    | cons x ks =>
      cases x with
      | none => cases h
      | some x =>
        cases vs with
        | nil => cases h
        | cons y vs =>
          have h : (isE N a sc x && (isE N b sc y && isPs N r sc ks vs)) = true := h
          simp only [Bool.and_eq_true] at h
          obtain ⟨h1, h2, h3⟩ := hr.p G h.2.2
          refine ⟨fun pos => ?_, by rw [List.all_cons, h2]; rfl, by rw [List.length_cons, List.length_cons, h3]⟩
          obtain ⟨trs, q1, q2⟩ := h1 pos
          refine ⟨_, pps_cons WE.pe WE.pe q1, fun env st σ H ρ Q re rs hp => ?_⟩
          have hp2 : match (evalE F a env st).bind fun x s1 => (evalE F b env s1).bind fun y s2 => (evalE F r env s2).bind fun w s3 => match w with | .tup vs => Res.ok (Val.tup (x :: y :: vs)) s3 | _ => .stuck with
            | .ok (Val.tup xs) st' => ∀ (ps : List (V × V)) (H' : Hp) (ρ' : List Addr), Ex ρ ρ' → Gr X.K H H' → RS X.K ρ' H' st' → RVs X.K ρ' H' xs (ps.flatMap fun p => [p.1, p.2]) → Q ps H'
            | _ => False := hp
          clear hp
          cases e1 : evalE F a env st with
          | ok v s1 =>
            rw [e1, bind_ok] at hp2
            cases e2 : evalE F b env s1 with
            | ok u s2 =>
              rw [e2, bind_ok] at hp2
              cases e3 : evalE F r env s2 with
              | ok w s3 =>
                rw [e3, bind_ok] at hp2
                cases w with
                | tup xs =>
                  refine se_use (ha.e G h.1) re rs e1 fun V H1 ρ1 x1 g1 rs1 re1 rv1 => ?_
                  refine se_use (hb.e G h.2.1) re1 rs1 e2 fun U H2 ρ2 x2 g2 rs2 re2 rv2 => ?_
                  refine q2 env s2 σ H2 ρ2 _ re2 rs2 ?_
                  rw [e3]
                  intro ps H3 ρ3 x3 g3 rs3 rv3
                  exact hp2 ((V, U) :: ps) H3 ρ3 (x1.trans (x2.trans x3)) (g1.trans (g2.trans g3)) rs3 (RVs.flat2 (RV.mono (x2.trans x3) (g2.trans g3) _ _ rv1) (RV.mono x3 g3 _ _ rv2) rv3)
                | _ => exact hp2.elim
              | _ => rw [e3] at hp2; exact hp2.elim
            | _ => rw [e2] at hp2; exact hp2.elim
          | _ => rw [e1] at hp2; exact hp2.elim

theorem s_tup {args : CE} (ha : Snd F k args) : Snd F k (.tup args) := by
  refine snd_val (fun {X N sc} G {x} h => ?_) (fun N sc x env h => by cases x <;> first | (intro _; rfl) | cases h) rfl (fun _ _ _ => rfl) (fun _ _ _ _ => rfl)
  intro env st σ H ρ Q re rs hp
  cases x with
  | Tuple es j p =>
    have h : isEs N args sc es = true := h
    obtain ⟨w, s1, e1, hp⟩ := PostV.bnd (r := evalE F args env st) hp
    cases w with
    | tup xs =>
      obtain ⟨hl, hp⟩ := PostV.need hp
      refine of_pe (pe_tup WA.pa) (sa_use (ha.a G h) re rs e1 fun vs H1 ρ1 x1 g1 rs1 re1 rv1 => ⟨by rw [← rv1.length]; exact hl, fun q hq => ?_⟩)
      exact PostV.newT (PostV.mono hp x1 g1) rs1 rv1 hq
    | _ => exact hp.elim
  | _ => cases h
theorem s_lst {args : CE} (ha : Snd F k args) : Snd F k (.lst args) := by
  refine snd_val (fun {X N sc} G {x} h => ?_) (fun N sc x env h => by cases x <;> first | (intro _; rfl) | cases h) rfl (fun _ _ _ => rfl) (fun _ _ _ _ => rfl)
  intro env st σ H ρ Q re rs hp
  cases x with
  | List es p =>
    have h : isEs N args sc es = true := h
    obtain ⟨w, s1, e1, hp⟩ := PostV.bnd (r := evalE F args env st) hp
    cases w with
    | tup xs =>
      obtain ⟨hl, hp⟩ := PostV.need hp
      refine of_pe (pe_lst WA.pa) (sa_use (ha.a G h) re rs e1 fun vs H1 ρ1 x1 g1 rs1 re1 rv1 => ⟨by rw [← rv1.length]; exact hl, fun q hq => ?_⟩)
      exact PostV.newL (PostV.mono hp x1 g1) rs1 rv1 hq
    | _ => exact hp.elim
  | _ => cases h
theorem s_bin {op : Bop} {a b : CE} (ha : Snd F k a) (hb : Snd F k b) : Snd F k (.bin op a b) := by
  refine snd_val (fun {X N sc} G {x} h => ?_) (fun N sc x env h => by cases x <;> first | (intro _; rfl) | cases h) rfl (fun _ _ _ => rfl) (fun _ _ _ _ => rfl)
  intro env st σ H ρ Q re rs hp
  cases x with
  | BinOp y o z p =>
    have h : (decide (o = opOf op) && (isE N a sc y && isE N b sc z)) = true := h
    simp only [Bool.and_eq_true, decide_eq_true_eq] at h
    obtain ⟨h1, h2, h3⟩ := h
    subst h1
    obtain ⟨v, s1, e1, hp⟩ := PostV.bnd (r := evalE F a env st) hp
    obtain ⟨u, s2, e2, hp⟩ := PostV.bnd (r := evalE F b env s1) hp
    refine of_pe (pe_op WOp.r WE.pe WE.pe) (se_use (ha.e G h2) re rs e1 fun V H1 ρ1 x1 g1 rs1 re1 rv1 => ?_)
    refine se_use (hb.e G h3) re1 rs1 e2 fun U H2 ρ2 x2 g2 rs2 re2 rv2 => ?_
    exact bin_ok rs2 (RV.mono x2 g2 _ _ rv1) rv2 (hp.mono (x1.trans x2) (g1.trans g2))
  | _ => cases h
theorem s_neg {a : CE} (ha : Snd F k a) : Snd F k (.neg a) := by
  refine snd_val (fun {X N sc} G {x} h => ?_) (fun N sc x env h => ?_) rfl (fun _ _ _ => rfl) (fun _ _ _ _ => rfl)
  · intro env st σ H ρ Q re rs hp
    cases x with
    | UnaryOp o y p =>
      cases o with
      | USub =>
        have h : isE N a sc y = true := h
        obtain ⟨v, s1, e1, hp⟩ := PostV.bnd (r := evalE F a env st) hp
        refine of_pe (pe_un un_neg WE.pe) (se_use (ha.e G h) re rs e1 fun V H1 ρ1 x1 g1 rs1 re1 rv1 => ?_)
        cases rv1 with
        | int i => exact ⟨i, rfl, PostV.here (PostV.mono hp x1 g1) rs1 (.int _)⟩
        | _ => exact hp.elim
      | _ => cases h
    | _ => cases h
  · cases x with
    | UnaryOp o y p =>
      cases o with
      | USub => intro _; rfl
      | _ => cases h
    | _ => cases h
theorem s_cmp {op : Cop} {a b : CE} (ha : Snd F k a) (hb : Snd F k b) : Snd F k (.cmp op a b) := by
  have main : ∀ {X : Cx} {N : List Str} {sc : Scope} (G : Good X N sc F k) {x : Expr}, isE N (.cmp op a b) sc x = true → ∃ y z p, x = .Compare y [cmpOf op] [z] p ∧ plainX z = true ∧ isE N a sc y = true ∧ isE N b sc z = true := by
    intro X N sc G x h
    cases x with
    | Compare y os zs p =>
      match os, zs, h with
      | [o], [z], h =>
        have h : (decide (o = cmpOf op) && (plainX z && (isE N a sc y && isE N b sc z))) = true := h
        simp only [Bool.and_eq_true, decide_eq_true_eq] at h
        obtain ⟨h1, h2, h3, h4⟩ := h
        subst h1
        exact ⟨y, z, p, rfl, h2, h3, h4⟩
      | [], _, h => cases h
      | _ :: _ :: _, _, h => cases h
      | [_], [], h => cases h
      | [_], _ :: _ :: _, h => cases h
    | _ => cases h
  refine ⟨fun {X N sc} G {x} h => ?_, fun {X N sc} G {x} h => ?_, fun {_ _ _} G {_} h z => (by cases z), fun {_ _ _} G {_} h => (by cases h), fun {_ _ _} G {_ _} h => (by cases h)⟩
  · obtain ⟨y, z, p, rfl, h2, h3, h4⟩ := main G h
    intro env st σ H ρ Q re rs hp
    obtain ⟨v, s1, e1, hp⟩ := PostV.bnd (r := evalE F a env st) hp
    obtain ⟨u, s2, e2, hp⟩ := PostV.bnd (r := evalE F b env s1) hp
    refine of_pe (pe_cmpR WOp.r WE.pe WE.pe (plain_mark h2)) (se_use (ha.e G h3) re rs e1 fun V H1 ρ1 x1 g1 rs1 re1 rv1 => ?_)
    refine se_use (hb.e G h4) re1 rs1 e2 fun U H2 ρ2 x2 g2 rs2 re2 rv2 => ?_
    exact cmp_ok G.units rs2 (RV.mono x2 g2 _ _ rv1) rv2 (hp.mono (x1.trans x2) (g1.trans g2))
  · obtain ⟨y, z, p, rfl, h2, h3, h4⟩ := main G h
    intro env st σ H ρ Q re rs hp
    obtain ⟨r, s3, e0, hp⟩ := hp.bnd
    obtain ⟨v, s1, e1, e0⟩ := bind_eq_ok (r := evalE F a env st) e0
    obtain ⟨u, s2, e2, e0⟩ := bind_eq_ok (r := evalE F b env s1) e0
    refine of_pt (pt_cmpR WOp.r WE.pe WE.pe (plain_mark h2)) (se_use (ha.e G h3) re rs e1 fun V H1 ρ1 x1 g1 rs1 re1 rv1 => ?_)
    refine se_use (hb.e G h4) re1 rs1 e2 fun U H2 ρ2 x2 g2 rs2 re2 rv2 => ?_
    refine cmp_ok G.units rs2 (RV.mono x2 g2 _ _ rv1) rv2 ?_
    rw [e0]
    obtain ⟨c, t1, hp⟩ := testV_ok hp
    intro W H3 ρ3 x3 g3 rs3 rv3
    have cb : ∃ d, r = .bool d := by
      have q : cmpop op v u s2 = .ok r s3 := e0
      unfold cmpop optB at q
      repeat' split at q
      all_goals first | (cases q; done) | (cases q; exact ⟨_, rfl⟩)
    obtain ⟨d, rfl⟩ := cb
    cases rv3
    cases t1
    exact ⟨_, rfl, hp H3 ρ3 (x1.trans (x2.trans x3)) (g1.trans (g2.trans g3)) rs3⟩
theorem cmp_bool {op : Cop} {v u r : Val} {s2 s3 : Store} (q : cmpop op v u s2 = .ok r s3) : ∃ d, r = .bool d := by
  unfold cmpop optB at q
  repeat' split at q
  all_goals first | (cases q; done) | (cases q; exact ⟨_, rfl⟩)
theorem s_chain {op op' : Cop} {a b c : CE} (ha : Snd F k a) (hb : Snd F k b) (hc : Snd F k c) : Snd F k (.chain op op' a b c) := by
  have main : ∀ {X : Cx} {N : List Str} {sc : Scope} (G : Good X N sc F k) {x : Expr}, isE N (.chain op op' a b c) sc x = true → ∃ y z w p, x = .Compare y [cmpOf op, cmpOf op'] [z, w] p ∧ plainX w = true ∧ isE N a sc y = true ∧ isE N b sc z = true ∧ isE N c sc w = true := by
    intro X N sc G x h
    cases x with
    | Compare y os zs p =>
      match os, zs, h with
      | [o, o'], [z, w], h =>
        have h : (decide (o = cmpOf op) && (decide (o' = cmpOf op') && (plainX w && (isE N a sc y && (isE N b sc z && isE N c sc w))))) = true := h
        simp only [Bool.and_eq_true, decide_eq_true_eq] at h
        obtain ⟨h1, h1', h2, h3, h4, h5⟩ := h
        subst h1 h1'
        exact ⟨y, z, w, p, rfl, h2, h3, h4, h5⟩
      | [], _, h => cases h
      | [_], _, h => cases h
      | _ :: _ :: _ :: _, _, h => cases h
      | [_, _], [], h => cases h
      | [_, _], [_], h => cases h
      | [_, _], _ :: _ :: _ :: _, h => cases h
    | _ => cases h
  refine ⟨fun {X N sc} G {x} h => ?_, fun {X N sc} G {x} h => ?_, fun {_ _ _} G {_} h z => (by cases z), fun {_ _ _} G {_} h => (by cases h), fun {_ _ _} G {_ _} h => (by cases h)⟩
  · obtain ⟨y, z, w, p, rfl, h2, h3, h4, h5⟩ := main G h
    intro env st σ H ρ Q re rs hp
    obtain ⟨v, s1, e1, hp⟩ := PostV.bnd (r := evalE F a env st) hp
    obtain ⟨u, s2, e2, hp⟩ := PostV.bnd (r := evalE F b env s1) hp
    obtain ⟨r, s3, e3, hp⟩ := PostV.bnd (r := cmpop op v u s2) hp
    refine of_pe (pe_chain WOp.r WOp.r WE.pe WE.pe WE.pe (plain_mark h2)) (se_use (ha.e G h3) re rs e1 fun V H1 ρ1 x1 g1 rs1 re1 rv1 => ?_)
    refine se_use (hb.e G h4) re1 rs1 e2 fun U H2 ρ2 x2 g2 rs2 re2 rv2 => ?_
    refine cmp_ok G.units rs2 (RV.mono x2 g2 _ _ rv1) rv2 ?_
    rw [e3]
    intro W H3 ρ3 x3 g3 rs3 rv3
    obtain ⟨d, rfl⟩ := cmp_bool e3
    cases rv3
    refine ⟨d, rfl, ?_⟩
    cases d with
    | false => exact PostV.here (PostV.mono hp (x1.trans (x2.trans x3)) (g1.trans (g2.trans g3))) rs3 (.bool _)
    | true =>
      obtain ⟨t, s4, e4, hp⟩ := PostV.bnd (r := evalE F c env s3) hp
      show WE X w σ H3 _
      refine se_use (hc.e G h5) (re2.mono x3 g3) rs3 e4 fun T H4 ρ4 x4 g4 rs4 re4 rv4 => ?_
      exact cmp_ok G.units rs4 (RV.mono (x3.trans x4) (g3.trans g4) _ _ rv2) rv4 (hp.mono (x1.trans (x2.trans (x3.trans x4))) (g1.trans (g2.trans (g3.trans g4))))
  · obtain ⟨y, z, w, p, rfl, h2, h3, h4, h5⟩ := main G h
    intro env st σ H ρ Q re rs hp
    obtain ⟨r0, s5, e0, hp⟩ := hp.bnd
    obtain ⟨v, s1, e1, e0⟩ := bind_eq_ok (r := evalE F a env st) e0
    obtain ⟨u, s2, e2, e0⟩ := bind_eq_ok (r := evalE F b env s1) e0
    obtain ⟨r, s3, e3, e0⟩ := bind_eq_ok (r := cmpop op v u s2) e0
    refine of_pt (pt_chain WOp.r WOp.r WE.pe WE.pe WE.pe (plain_mark h2)) (se_use (ha.e G h3) re rs e1 fun V H1 ρ1 x1 g1 rs1 re1 rv1 => ?_)
    refine se_use (hb.e G h4) re1 rs1 e2 fun U H2 ρ2 x2 g2 rs2 re2 rv2 => ?_
    refine cmp_ok G.units rs2 (RV.mono x2 g2 _ _ rv1) rv2 ?_
    rw [e3]
    intro W H3 ρ3 x3 g3 rs3 rv3
    obtain ⟨d, rfl⟩ := cmp_bool e3
    cases rv3
    refine ⟨d, rfl, ?_⟩
    cases d with
    | false =>
      cases e0
      obtain ⟨c', t1, hp⟩ := testV_ok hp
      cases t1
      exact ⟨false, rfl, hp H3 ρ3 (x1.trans (x2.trans x3)) (g1.trans (g2.trans g3)) rs3⟩
    | true =>
      obtain ⟨t, s4, e4, e0⟩ := bind_eq_ok (r := evalE F c env s3) e0
      show WE X w σ H3 _
      refine se_use (hc.e G h5) (re2.mono x3 g3) rs3 e4 fun T H4 ρ4 x4 g4 rs4 re4 rv4 => ?_
      refine cmp_ok G.units rs4 (RV.mono (x3.trans x4) (g3.trans g4) _ _ rv2) rv4 ?_
      rw [e0]
      obtain ⟨d', rfl⟩ := cmp_bool e0
      obtain ⟨c', t1, hp⟩ := testV_ok hp
      cases t1
      intro W5 H5 ρ5 x5 g5 rs5 rv5
      cases rv5
      exact ⟨d', rfl, hp H5 ρ5 (x1.trans (x2.trans (x3.trans (x4.trans x5)))) (g1.trans (g2.trans (g3.trans (g4.trans g5)))) rs5⟩
end
end Ev

set_option Elab.async false
set_option linter.all false
set_option maxRecDepth 100000
set_option maxHeartbeats 4000000
/-! ## Soundness of expressions, further constructs -/
namespace Ev
open PySem PySem.Spec PyProof.Rows L2
section
variable {F : Fns} {k : Nat}
theorem s_and1 {a : CE} (ha : Snd F k a) : Snd F k (.and1 a) := by
  have main : ∀ {N : List Str} {sc : Scope} {x : Expr}, isE N (.and1 a) sc x = true → ∃ y p, x = .BoolOp .And [y] p ∧ isE N a sc y = true := by
    intro N sc x h
    cases x with
    | BoolOp o ys p =>
      match o, ys, h with
      | .And, [y], h => exact ⟨y, p, rfl, h⟩
      | .And, [], h => cases h
      | .And, _ :: _ :: _, h => cases h
      | .Or, _, h => cases h
    | _ => cases h
  have w : ∀ {X : Cx} {N : List Str} {sc : Scope} (G : Good X N sc F k) {x : Expr}, isE N (.and1 a) sc x = true → SW X F (.and1 a) x := by
    intro X N sc G x h
    obtain ⟨y, p, rfl, h1⟩ := main h
    intro env st σ H ρ Q re rs hp
    exact of_pw (pw_and1 WT.pt) (ha.t G h1 env st σ H ρ Q re rs hp)
  refine ⟨fun {X N sc} G {x} h => ?_, fun {X N sc} G {x} h env st σ H ρ Q re rs hp => of_pt (WW.pw.pt) (w G h env st σ H ρ Q re rs hp), fun {X N sc} G {x} h _ => w G h, fun {_ _ _} G {_} h => (by cases h), fun {_ _ _} G {_ _} h => (by cases h)⟩
  obtain ⟨y, p, rfl, h1⟩ := main h
  intro env st σ H ρ Q re rs hp
  exact of_pe (pe_one WE.pe) (ha.e G h1 env st σ H ρ Q re rs hp)
theorem s_or1 {a : CE} (ha : Snd F k a) : Snd F k (.or1 a) := by
  have main : ∀ {N : List Str} {sc : Scope} {x : Expr}, isE N (.or1 a) sc x = true → ∃ y p, x = .BoolOp .Or [y] p ∧ isE N a sc y = true := by
    intro N sc x h
    cases x with
    | BoolOp o ys p =>
      match o, ys, h with
      | .Or, [y], h => exact ⟨y, p, rfl, h⟩
      | .Or, [], h => cases h
      | .Or, _ :: _ :: _, h => cases h
      | .And, _, h => cases h
    | _ => cases h
  have w : ∀ {X : Cx} {N : List Str} {sc : Scope} (G : Good X N sc F k) {x : Expr}, isE N (.or1 a) sc x = true → SW X F (.or1 a) x := by
    intro X N sc G x h
    obtain ⟨y, p, rfl, h1⟩ := main h
    intro env st σ H ρ Q re rs hp
    exact of_pw (pw_or1 WT.pt) (ha.t G h1 env st σ H ρ Q re rs hp)
  refine ⟨fun {X N sc} G {x} h => ?_, fun {X N sc} G {x} h env st σ H ρ Q re rs hp => of_pt (WW.pw.pt) (w G h env st σ H ρ Q re rs hp), fun {X N sc} G {x} h _ => w G h, fun {_ _ _} G {_} h => (by cases h), fun {_ _ _} G {_ _} h => (by cases h)⟩
  obtain ⟨y, p, rfl, h1⟩ := main h
  intro env st σ H ρ Q re rs hp
  exact of_pe (pe_one WE.pe) (ha.e G h1 env st σ H ρ Q re rs hp)
theorem s_and2 {a r : CE} (ha : Snd F k a) (hr : Snd F k r) : Snd F k (.and2 a r) := by
  have main : ∀ {N : List Str} {sc : Scope} {x : Expr}, isE N (.and2 a r) sc x = true → ∃ y z rest p, x = .BoolOp .And (y :: z :: rest) p ∧ isAndC r = true ∧ isE N a sc y = true ∧ isE N r sc (.BoolOp .And (z :: rest) p) = true := by
    intro N sc x h
    cases x with
    | BoolOp o ys p =>
      match o, ys, h with
      | .And, y :: z :: rest, h =>
        have h : (isAndC r && (isE N a sc y && isE N r sc (.BoolOp .And (z :: rest) p))) = true := h
        simp only [Bool.and_eq_true] at h
        exact ⟨y, z, rest, p, rfl, h.1, h.2.1, h.2.2⟩
      | .And, [], h => cases h
      | .And, [_], h => cases h
      | .Or, _, h => cases h
    | _ => cases h
  have w : ∀ {X : Cx} {N : List Str} {sc : Scope} (G : Good X N sc F k) {x : Expr}, isE N (.and2 a r) sc x = true → SW X F (.and2 a r) x := by
    intro X N sc G x h
    obtain ⟨y, z, rest, p, rfl, h1, h2, h3⟩ := main h
    intro env st σ H ρ Q re rs hp
    obtain ⟨v0, s0, e0, hp⟩ := hp.bnd
    obtain ⟨v, s1, e1, e0⟩ := bind_eq_ok (r := evalE F a env st) e0
    refine of_pw (pw_and WT.pt WW.pw) ?_
    cases v with
    | bool c =>
      refine st_use (ha.t G h2) re rs e1 (b := c) rfl fun H1 ρ1 x1 g1 rs1 re1 => ?_
      cases c with
      | true =>
        have e0 : evalE F r env s1 = .ok v0 s0 := e0
        show WW X _ σ H1 Q
        refine hr.w G h3 (by rw [h1]; rfl) env s1 σ H1 ρ1 Q re1 rs1 ?_
        rw [e0]
        exact hp.mono x1 g1
      | false =>
        cases e0
        obtain ⟨b, t1, hp⟩ := testV_ok hp
        cases t1
        exact hp H1 ρ1 x1 g1 rs1
    | _ => cases e0
  refine ⟨fun {X N sc} G {x} h => ?_, fun {X N sc} G {x} h env st σ H ρ Q re rs hp => of_pt (WW.pw.pt) (w G h env st σ H ρ Q re rs hp), fun {X N sc} G {x} h _ => w G h, fun {_ _ _} G {_} h => (by cases h), fun {_ _ _} G {_ _} h => (by cases h)⟩
  obtain ⟨y, z, rest, p, rfl, h1, h2, h3⟩ := main h
  intro env st σ H ρ Q re rs hp
  obtain ⟨v, s1, e1, hp⟩ := PostV.bnd (r := evalE F a env st) hp
  refine of_pe (pe_and WE.pe WE.pe) (se_use (ha.e G h2) re rs e1 fun V H1 ρ1 x1 g1 rs1 re1 rv1 => ?_)
  cases rv1 with
  | bool c =>
    refine ⟨c, rfl, ?_⟩
    cases c with
    | true => exact hr.e G h3 env s1 σ H1 ρ1 Q re1 rs1 (PostV.mono hp x1 g1)
    | false => exact PostV.here (PostV.mono hp x1 g1) rs1 (.bool _)
  | _ => exact hp.elim
theorem s_or2 {a r : CE} (ha : Snd F k a) (hr : Snd F k r) : Snd F k (.or2 a r) := by
  have main : ∀ {N : List Str} {sc : Scope} {x : Expr}, isE N (.or2 a r) sc x = true → ∃ y z rest p, x = .BoolOp .Or (y :: z :: rest) p ∧ isOrC r = true ∧ isE N a sc y = true ∧ isE N r sc (.BoolOp .Or (z :: rest) p) = true := by
    intro N sc x h
    cases x with
    | BoolOp o ys p =>
      match o, ys, h with
      | .Or, y :: z :: rest, h =>
        have h : (isOrC r && (isE N a sc y && isE N r sc (.BoolOp .Or (z :: rest) p))) = true := h
        simp only [Bool.and_eq_true] at h
        exact ⟨y, z, rest, p, rfl, h.1, h.2.1, h.2.2⟩
      | .Or, [], h => cases h
      | .Or, [_], h => cases h
      | .And, _, h => cases h
    | _ => cases h
  have w : ∀ {X : Cx} {N : List Str} {sc : Scope} (G : Good X N sc F k) {x : Expr}, isE N (.or2 a r) sc x = true → SW X F (.or2 a r) x := by
    intro X N sc G x h
    obtain ⟨y, z, rest, p, rfl, h1, h2, h3⟩ := main h
    intro env st σ H ρ Q re rs hp
    obtain ⟨v0, s0, e0, hp⟩ := hp.bnd
    obtain ⟨v, s1, e1, e0⟩ := bind_eq_ok (r := evalE F a env st) e0
    refine of_pw (pw_or WT.pt WW.pw) ?_
    cases v with
    | bool c =>
      refine st_use (ha.t G h2) re rs e1 (b := c) rfl fun H1 ρ1 x1 g1 rs1 re1 => ?_
      cases c with
      | false =>
        have e0 : evalE F r env s1 = .ok v0 s0 := e0
        show WW X _ σ H1 Q
        refine hr.w G h3 (by rw [h1, Bool.or_true]) env s1 σ H1 ρ1 Q re1 rs1 ?_
        rw [e0]
        exact hp.mono x1 g1
      | true =>
        cases e0
        obtain ⟨b, t1, hp⟩ := testV_ok hp
        cases t1
        exact hp H1 ρ1 x1 g1 rs1
    | _ => cases e0
  refine ⟨fun {X N sc} G {x} h => ?_, fun {X N sc} G {x} h env st σ H ρ Q re rs hp => of_pt (WW.pw.pt) (w G h env st σ H ρ Q re rs hp), fun {X N sc} G {x} h _ => w G h, fun {_ _ _} G {_} h => (by cases h), fun {_ _ _} G {_ _} h => (by cases h)⟩
  obtain ⟨y, z, rest, p, rfl, h1, h2, h3⟩ := main h
  intro env st σ H ρ Q re rs hp
  obtain ⟨v, s1, e1, hp⟩ := PostV.bnd (r := evalE F a env st) hp
  refine of_pe (pe_or WE.pe WE.pe) (se_use (ha.e G h2) re rs e1 fun V H1 ρ1 x1 g1 rs1 re1 rv1 => ?_)
  cases rv1 with
  | bool c =>
    refine ⟨c, rfl, ?_⟩
    cases c with
    | false => exact hr.e G h3 env s1 σ H1 ρ1 Q re1 rs1 (PostV.mono hp x1 g1)
    | true => exact PostV.here (PostV.mono hp x1 g1) rs1 (.bool _)
  | _ => exact hp.elim
theorem testV_eq {v : Val} {s1 s2 : Store} {b : Bool} (e2 : testV v s1 = .ok b s2) : truth s1 v = some b ∧ s2 = s1 := by
  unfold testV at e2
  split at e2
  · cases e2; exact ⟨by assumption, rfl⟩
  · cases e2
theorem s_not {a : CE} (ha : Snd F k a) : Snd F k (.not_ a) := by
  have main : ∀ {N : List Str} {sc : Scope} {x : Expr}, isE N (.not_ a) sc x = true → ∃ y p, x = .UnaryOp .Not y p ∧ isE N a sc y = true := by
    intro N sc x h
    cases x with
    | UnaryOp o y p =>
      cases o with
      | Not => exact ⟨y, p, rfl, h⟩
      | _ => cases h
    | _ => cases h
  refine ⟨fun {X N sc} G {x} h => ?_, fun {X N sc} G {x} h => ?_, fun {_ _ _} G {_} h z => (by cases z), fun {_ _ _} G {_} h => (by cases h), fun {_ _ _} G {_ _} h => (by cases h)⟩
  · obtain ⟨y, p, rfl, h1⟩ := main h
    intro env st σ H ρ Q re rs hp
    obtain ⟨v, s1, e1, hp1⟩ := PostV.bnd (r := evalE F a env st) hp
    obtain ⟨b, s2, e2, hp2⟩ := PostV.bnd (r := testV v s1) hp1
    obtain ⟨e3, e4⟩ := testV_eq e2
    rw [e4] at hp2
    refine of_pe (pe_notT (WE.pe (e := y))) (se_use (ha.e G h1) re rs e1 fun V H1 ρ1 x1 g1 rs1 re1 rv1 => ?_)
    exact ⟨b, truth_ok rs1 rv1 e3, PostV.here (PostV.mono hp2 x1 g1) rs1 (.bool _)⟩
  · obtain ⟨y, p, rfl, h1⟩ := main h
    intro env st σ H ρ Q re rs hp
    obtain ⟨w, s0, e0, hp1⟩ := hp.bnd
    obtain ⟨v, s1, e1, e00⟩ := bind_eq_ok (r := evalE F a env st) e0
    obtain ⟨b, s2, e2, e01⟩ := bind_eq_ok (r := testV v s1) e00
    obtain ⟨e3, e4⟩ := testV_eq e2
    cases e01
    obtain ⟨c, t1, hp2⟩ := testV_ok hp1
    cases t1
    rw [e4] at hp2
    refine of_pt (pt_not WT.pt) (st_use (ha.t G h1) re rs e1 e3 fun H1 ρ1 x1 g1 rs1 re1 => ?_)
    exact hp2 H1 ρ1 x1 g1 rs1
theorem pt_ifExp {X : Cx} {c a b : Expr} {p : Pos} {tc ta tb : TT} (hc : PT X c tc) (ha : PT X a ta) (hb : PT X b tb) : PT X (.IfExp c a b p) (fun σ H Q => tc σ H fun d H1 => if d = true then ta σ H1 Q else tb σ H1 Q) := by
  refine ⟨fun pins s σ H Q I h => ?_⟩
  refine isTrue_IfExp (thn (hc.run pins s σ H _ I h) fun d s1 ⟨H1, I1, q1⟩ => ?_)
  cases d with
  | true => exact ha.run pins s1 σ H1 Q I1 q1
  | false => exact hb.run pins s1 σ H1 Q I1 q1
theorem s_ifx {c a b : CE} (hc : Snd F k c) (ha : Snd F k a) (hb : Snd F k b) : Snd F k (.ifx c a b) := by
  have main : ∀ {N : List Str} {sc : Scope} {x : Expr}, isE N (.ifx c a b) sc x = true → ∃ z y w p, x = .IfExp z y w p ∧ isE N c sc z = true ∧ isE N a sc y = true ∧ isE N b sc w = true := by
    intro N sc x h
    cases x with
    | IfExp z y w p =>
      have h : (isE N c sc z && (isE N a sc y && isE N b sc w)) = true := h
      simp only [Bool.and_eq_true] at h
      exact ⟨z, y, w, p, rfl, h.1, h.2.1, h.2.2⟩
    | _ => cases h
  refine ⟨fun {X N sc} G {x} h => ?_, fun {X N sc} G {x} h => ?_, fun {_ _ _} G {_} h z => (by cases z), fun {_ _ _} G {_} h => (by cases h), fun {_ _ _} G {_ _} h => (by cases h)⟩
  · obtain ⟨z, y, w, p, rfl, h1, h2, h3⟩ := main h
    intro env st σ H ρ Q re rs hp
    obtain ⟨v, s1, e1, hp⟩ := PostV.bnd (r := evalE F c env st) hp
    obtain ⟨t, s2, e2, hp⟩ := PostV.bnd (r := testV v s1) hp
    obtain ⟨e3, rfl⟩ := testV_eq e2
    refine of_pe (pe_ifExp WT.pt WE.pe WE.pe) (st_use (hc.t G h1) re rs e1 e3 fun H1 ρ1 x1 g1 rs1 re1 => ?_)
    cases t with
    | true => exact ha.e G h2 env _ σ H1 ρ1 Q re1 rs1 (PostV.mono hp x1 g1)
    | false => exact hb.e G h3 env _ σ H1 ρ1 Q re1 rs1 (PostV.mono hp x1 g1)
  · obtain ⟨z, y, w, p, rfl, h1, h2, h3⟩ := main h
    intro env st σ H ρ Q re rs hp
    obtain ⟨u, s0, e0, hp⟩ := hp.bnd
    obtain ⟨v, s1, e1, e0⟩ := bind_eq_ok (r := evalE F c env st) e0
    obtain ⟨t, s2, e2, e0⟩ := bind_eq_ok (r := testV v s1) e0
    obtain ⟨e3, rfl⟩ := testV_eq e2
    refine of_pt (pt_ifExp WT.pt WT.pt WT.pt) (st_use (hc.t G h1) re rs e1 e3 fun H1 ρ1 x1 g1 rs1 re1 => ?_)
    cases t with
    | true =>
      have e0 : evalE F a env _ = .ok u s0 := e0
      refine ha.t G h2 env _ σ H1 ρ1 Q re1 rs1 ?_
      rw [e0]; exact hp.mono x1 g1
    | false =>
      have e0 : evalE F b env _ = .ok u s0 := e0
      refine hb.t G h3 env _ σ H1 ρ1 Q re1 rs1 ?_
      rw [e0]; exact hp.mono x1 g1
theorem s_ix {a i : CE} (ha : Snd F k a) (hi : Snd F k i) : Snd F k (.ix a i) := by
  refine snd_val (fun {X N sc} G {x} h => ?_) (fun N sc x env h => by cases x <;> first | (intro _; rfl) | cases h) rfl (fun _ _ _ => rfl) (fun _ _ _ _ => rfl)
  intro env st σ H ρ Q re rs hp
  cases x with
  | Subscript y z p =>
    have h : (plainX z && (isE N a sc y && isE N i sc z)) = true := h
    simp only [Bool.and_eq_true] at h
    obtain ⟨h1, h2, h3⟩ := h
    obtain ⟨v, s1, e1, hp⟩ := PostV.bnd (r := evalE F a env st) hp
    obtain ⟨u, s2, e2, hp⟩ := PostV.bnd (r := evalE F i env s1) hp
    refine of_pe (pe_ix WIx.r WE.pe WE.pe (plain_ix h1)) (se_use (ha.e G h2) re rs e1 fun V H1 ρ1 x1 g1 rs1 re1 rv1 => ?_)
    refine se_use (hi.e G h3) re1 rs1 e2 fun U H2 ρ2 x2 g2 rs2 re2 rv2 => ?_
    exact ix_ok G.units rs2 (RV.mono x2 g2 _ _ rv1) rv2 (hp.mono (x1.trans x2) (g1.trans g2))
  | _ => cases h
/-- a slice's bound -/
theorem part_use {X : Cx} {N : List Str} {sc : Scope} (G : Good X N sc F k) {c : CE} (hc : Snd F k c) {l : Option Expr}
    (h : isOpt (isNil c) (isE N c sc) l = true) {env : Env} {st s1 : Store} {i : Option Int} {σ : L2.St} {H : Hp} {ρ : List Addr} {Q : Option Int → Hp → Prop}
    (re : RE X.K ρ H env σ) (rs : RS X.K ρ H st) (e1 : (if isNil c = true then Res.ok none st else (evalE F c env st).bind part) = .ok i s1)
    (hq : ∀ H' ρ', Ex ρ ρ' → Gr X.K H H' → RS X.K ρ' H' s1 → RE X.K ρ' H' env σ → Q i H') : ∃ t, PO X l t ∧ t σ H Q := by
  cases l with
  | none =>
    have h : isNil c = true := h
    rw [if_pos h] at e1
    cases e1
    exact ⟨_, po_none, hq H ρ Ex.refl Gr.refl rs re⟩
  | some l =>
    have h : isE N c sc l = true := h
    have e2 : (evalE F c env st).bind part = .ok i s1 := by
      cases c with
      | nil => cases h
      | _ => exact e1
    obtain ⟨v, s2, e3, e4⟩ := bind_eq_ok e2
    refine ⟨_, po_some WE.pe, se_use (hc.e G h) re rs e3 fun V H1 ρ1 x1 g1 rs1 re1 rv1 => ?_⟩
    cases rv1 with
    | int j => cases e4; exact ⟨j, rfl, hq H1 ρ1 x1 g1 rs1 re1⟩
    | _ => cases e4
/-- the weakest reading of a bound -/
def WO (X : Cx) (e : Option Expr) : TO := fun σ H Q => ∃ t, PO X e t ∧ t σ H Q
theorem WO.po {X : Cx} {e : Option Expr} : PO X e (WO X e) := ⟨fun pins s σ H Q I h => by obtain ⟨t, p, q⟩ := h; exact p.run pins s σ H Q I q⟩
/-! a[::-1] of a tuple -/
section
open PyProof.Rows HT PySem.SeqAt PySem.MeetsSeq PySem.MeetsSeq2 PySem.MeetsSeq3
theorem fmap_all {α β : Type} {f : α → Option β} {g : α → β} : ∀ l : List α, (∀ m ∈ l, f m = some (g m)) → l.filterMap f = l.map g
  | [], _ => rfl
  | x :: l, h => by rw [List.filterMap_cons, h x List.mem_cons_self, List.map_cons, fmap_all l fun m hm => h m (List.mem_cons_of_mem _ hm)]
theorem pick_back (its : List Value) : ((List.range its.length).filterMap fun (m : Nat) => its.toArray[(((its.length : Int) - 1) + (m : Int) * (-1)).toNat]?) = its.reverse := by
  apply List.ext_getElem?
  intro j
  have e : ((List.range its.length).filterMap fun (m : Nat) => its.toArray[(((its.length : Int) - 1) + (m : Int) * (-1)).toNat]?) = (List.range its.length).map fun m => its.getD (its.length - 1 - m) .none := by
    refine fmap_all _ fun m hm => ?_
    have hm := List.mem_range.mp hm
    have e : (((its.length : Int) - 1) + (m : Int) * (-1)).toNat = its.length - 1 - m := by omega
    have hl : its.length - 1 - m < its.length := by omega
    rw [e]
    simp [hl]
  rw [e]
  by_cases hj : j < its.length
  · have h2 : its.length - 1 - j < its.length := by omega
    rw [List.getElem?_map, List.getElem?_range hj, List.getElem?_reverse hj]
    simp [h2]
  · rw [List.getElem?_eq_none (by simp; omega), List.getElem?_eq_none (by simp; omega)]
theorem tup_back {prog : Program} {w : World} {A : Around} {E : Value → Shared → Prop} {s : Shared} {t sl : Addr} {its : List Value} {vs : Value} {Q : Value → Shared → Prop} (ht : IsTup s.heap t its.toArray) (hs : s.heap.IsSliceOf sl .none .none vs) (ps : IsPart vs (some (-1)))
    (h : Q (.ref s.heap.objs.size) { s with heap := s.heap.push { cls := .type "tuple", data := .seq its.reverse.toArray } }) (hz : its.length ≤ sizeLine) : wpAny (model prog w) A (getItem (.ref t) (.ref sl)) Q E s := by
  obtain ⟨o, k1, k2, k3⟩ := id hs
  have hT : s.TypeIs (.ref sl) "slice" := ⟨o, k1, k2⟩
  unfold getItem
  try with_reducible refine wpAny_holding ?_
  first
    | refine wpAny_bind (wpAny_pure ?_)
    | skip
  refine wpAny_bind (wpAny_sequenceKey (ht.typeIs) (by decide) (wpAny_bind (wpAny_callSpecial?_slot (name := Str.ofString "__getitem__") (ht.typeIs) PyProof.Rows.slot_tuple_getitem (wpAny_call_entry PyProof.Rows.slot_tuple_getitem (ht.typeIs) entry_tuple_getitem ?_ (args_tuple_getitem _ _)))))
  show wpAny _ _ (Builtin.Tuple.tupleItemsOf (.ref t) >>= _) _ _ _
  refine wpAny_bind (tupleItemsOf_ ht (wpAny_bind (wpAny_typeOf hT ?_)))
  rw [if_pos (by decide)]
  have places : Builtin.Slice.slicePlaces ((its.length : Int) - 1) (-1) (-1) = its.length := by
    unfold Builtin.Slice.slicePlaces
    rw [if_neg (by decide)]
    by_cases c : (its.length : Int) - 1 > -1
    · rw [if_pos c]
      have : ((its.length : Int) - 1 - -1 - 1) / - -1 = (its.length : Int) - 1 := by
        rw [show (- -1 : Int) = 1 from rfl, Int.ediv_one]; omega
      rw [this]; omega
    · rw [if_neg c]; omega
  have app : ∀ (A : Around) (Q : Int × Int × Nat → Shared → Prop), Q ((its.length : Int) - 1, -1, its.length) s → wpAny (model prog w) A (Builtin.Slice.sliceApplied (.ref sl) (pure ((its.toArray.size : Nat) : Int))) Q E s := fun A Q h => by
    unfold Builtin.Slice.sliceApplied Builtin.Slice.sliceFields
    refine wpAny_bind (wpAny_bind (wpAny_field k1 k3 (x := .none) rfl (wpAny_bind (wpAny_field k1 k3 (x := .none) rfl (wpAny_bind (wpAny_field k1 k3 (x := vs) rfl (wpAny_pure (wpAny_bind (slicePart_ ps ?_)))))))))
    show wpAny _ _ (if ((-1 : Int) == 0) = true then _ else _) _ _ _
    rw [if_neg (by decide)]
    refine wpAny_bind (slicePart_none (wpAny_bind (slicePart_none (wpAny_bind (wpAny_pure ?_)))))
    show wpAny _ _ (pure (((its.toArray.size : Nat) : Int) - 1, (-1 : Int), Builtin.Slice.slicePlaces (((its.toArray.size : Nat) : Int) - 1) (-1) (-1))) _ _ _
    rw [List.size_toArray, places]
    exact wpAny_pure h
  refine wpAny_bind (app _ _ ?_)
  show wpAny _ _ (if (((its.length : Int) - 1 == 0 && (-1 : Int) == 1 && its.length == its.toArray.size) = true) then _ else _) _ _ _
  rw [if_neg (by simp), pick_back]
  have hok : sizeOk (.seq its.reverse.toArray) := by
    show its.reverse.toArray.size ≤ sizeLine
    simpa using hz
  first
    | exact wpAny_bind (m := Builtin.Tuple.tupleExact _) (wpAny_newObj_type (wpAny_pure ⟨_, rfl, wpAny_pure h⟩) hok)
    | exact wpAny_bind (m := Builtin.Tuple.tupleExact _) (wpAny_newObj_type (wpAny_bind (wpAny_pure (wpAny_pure ⟨_, rfl, wpAny_pure h⟩))) hok)
    | exact wpAny_bind (wpAny_bind (m := Builtin.Tuple.tupleExact _) (wpAny_newObj_type (wpAny_pure (wpAny_pure ⟨_, rfl, wpAny_pure h⟩)) hok))
    | exact wpAny_bind (wpAny_bind (m := Builtin.Tuple.tupleExact _) (wpAny_newObj_type (wpAny_pure ⟨_, rfl, wpAny_pure h⟩) hok))
end
def tRevT (K : PySem.W.Frag) (te : TE) : TE := fun σ H Q => te σ H fun x H1 => ∃ a xs, x = .ref a ∧ SqT K H1 a xs ∧ ∀ p, H1 p = none → Q (.ref p) (upd H1 p (.tup xs.reverse))
theorem pe_revT {X : Cx} {e : Expr} {te : TE} {k : Nat} {p1 p2 p3 pos : Pos} (he : PE X e te) : PE X (.Subscript e (.Slice none none (some (.UnaryOp .USub (.Constant (.int 1) k p1) p2)) p3) pos) (tRevT X.K te) := by
  refine ⟨fun pins s σ H Q I h => PyProof.Rows.Subscript_ (thn (he.run pins s σ H _ I h) fun v s1 ⟨x, H1, I1, r1, a, xs, ex, hx, q⟩ => ?_)⟩
  subst ex
  cases r1
  have st : PO X (some (.UnaryOp .USub (.Constant (.int 1) k p1) p2)) (tPart (tUn (rU fun i => .int (-i)) (tC (.int 1)))) := po_some (pe_un un_neg pe_int)
  refine wpAny_Slice (thn (po_none.run pins s1 σ H1 (fun o G => o = none ∧ G = H1) I1 ⟨rfl, rfl⟩) fun v2 s2 ⟨l, H2, I2, pl, el, e2⟩ => thn (po_none.run pins s2 σ H2 (fun o G => o = none ∧ G = H2) I2 ⟨rfl, rfl⟩) fun v3 s3 ⟨u, H3, I3, pu, eu, e3⟩ => ?_)
  subst el e2 eu e3
  refine thn (st.run pins s3 σ H3 (fun o G => o = some (-1) ∧ G = H3) I3 ⟨1, rfl, -1, rfl, rfl, rfl⟩) fun v4 s4 ⟨o, H4, I4, ps, eo, e4⟩ => ?_
  subst eo e4
  cases pl
  cases pu
  have J : Inv X pins σ H4 { s4 with heap := s4.heap.push { cls := .type "slice", data := .fields #[.none, .none, v4] } } := I4.kept (t' := s4.toks) fun b ob q => Heap.get?_push_of_some _ q
  obtain ⟨its, r, ht, hz⟩ := J.tuple hx
  have hl := r.length
  show wpAny (model X.prog X.w) X.A (subscriptTail e (.Slice none none (some (.UnaryOp .USub (.Constant (.int 1) k p1) p2)) p3) (.ref a) (.ref s4.heap.objs.size)) (EP X pins σ Q) X.xe _
  refine tail_any (ops := [.ref a, .ref s4.heap.objs.size]) ht.typeIs PyProof.Rows.slot_tuple_getitem.lookup (tup_back ht (Heap.IsSliceOf.new _ .none .none v4) ps ?_ (by omega)) (by with_unfolding_all rfl)
  exact ⟨.ref _, _, J.laid (t' := s4.toks) (o := .tup xs.reverse) (fun b ob q => Heap.get?_push_of_some _ q) (Nat.le_refl _) ⟨by rw [List.length_reverse]; exact hz, _, r.reverse, IsTup.new _ _⟩, rfl, q _ (J.hok.fresh (Nat.le_refl _))⟩
theorem s_slice {a lo hi : CE} (ha : Snd F k a) (hl : Snd F k lo) (hh : Snd F k hi) : Snd F k (.slice a lo hi) := by
  refine snd_val (fun {X N sc} G {x} h => ?_) (fun N sc x env h => by cases x <;> first | (intro _; rfl) | cases h) rfl (fun _ _ _ => rfl) (fun _ _ _ _ => rfl)
  intro env st σ H ρ Q re rs hp
  cases x with
  | Subscript y z p =>
    cases z with
    | Slice l u stp q =>
      cases stp with
      | none =>
        have h : (isE N a sc y && (isOpt (isNil lo) (isE N lo sc) l && isOpt (isNil hi) (isE N hi sc) u)) = true := h
        simp only [Bool.and_eq_true] at h
        obtain ⟨h1, h2, h3⟩ := h
        obtain ⟨v, s1, e1, hp⟩ := PostV.bnd (r := evalE F a env st) hp
        obtain ⟨i, s2, e2, hp⟩ := PostV.bnd (r := (if isNil lo = true then Res.ok none s1 else (evalE F lo env s1).bind part)) hp
        obtain ⟨j, s3, e3, hp⟩ := PostV.bnd (r := (if isNil hi = true then Res.ok none s2 else (evalE F hi env s2).bind part)) hp
        refine of_pe (pe_slice WSl.r WE.pe WO.po WO.po) (se_use (ha.e G h1) re rs e1 fun V H1 ρ1 x1 g1 rs1 re1 rv1 => ?_)
        refine part_use G hl h2 re1 rs1 e2 fun H2 ρ2 x2 g2 rs2 re2 => ?_
        refine part_use G hh h3 re2 rs2 e3 fun H3 ρ3 x3 g3 rs3 re3 => ?_
        exact sl_ok rs3 (RV.mono (x2.trans x3) (g2.trans g3) _ _ rv1) (PostV.mono hp (x1.trans (x2.trans x3)) (g1.trans (g2.trans g3)))
      | some _ => cases h
    | _ => cases h
  | _ => cases h
theorem s_rev {a : CE} (ha : Snd F k a) : Snd F k (.rev a) := by
  refine snd_val (fun {X N sc} G {x} h => ?_) (fun N sc x env h => by cases x <;> first | (intro _; rfl) | cases h) rfl (fun _ _ _ => rfl) (fun _ _ _ _ => rfl)
  intro env st σ H ρ Q re rs hp
  unfold isE at h
  split at h
  · rename_i y j p1 p2 p3 p4
    obtain ⟨v, s1, e1, hp⟩ := PostV.bnd (r := evalE F a env st) hp
    cases v with
    | tup xs =>
      refine of_pe (pe_revT WE.pe) (se_use (ha.e G h) re rs e1 fun V H1 ρ1 x1 g1 rs1 re1 rv1 => ?_)
      cases rv1 with
      | @tup _ b vs hs hv => exact ⟨b, vs, rfl, hs, fun q hq => PostV.newT (PostV.mono hp x1 g1) rs1 hv.reverse hq⟩
    | ref n =>
      replace hp : PostV X.K ρ H (match listAt s1 n with | some xs => Res.ok (Val.ref s1.length) (s1 ++ [.lst xs.reverse]) | none => .stuck) Q := hp
      cases e2 : listAt s1 n with
      | none => rw [e2] at hp; exact hp.elim
      | some xs =>
        rw [e2] at hp
        refine of_pe (pe_revL WE.pe) (se_use (ha.e G h) re rs e1 fun V H1 ρ1 x1 g1 rs1 re1 rv1 => ?_)
        cases rv1 with
        | @ref _ b hn =>
          obtain ⟨vs, hs, hv⟩ := rs1.list e2 hn
          exact ⟨b, vs, rfl, hs, fun q hq => PostV.newL (PostV.mono hp x1 g1) rs1 hv.reverse hq⟩
    | _ => exact hp.elim
  · cases h
theorem passF {X : Cx} : Passes (L2.CX X.prog X.w) X E0 := fun _ _ _ _ _ _ _ h => by
  obtain ⟨_, _, _, _, _, _, _, _, _, _, _, _, z⟩ := h
  exact z.elim
theorem s_call {f : Str} {args : CE} (ha : Snd F k args) : Snd F k (.call f args) := by
  have main : ∀ {N : List Str} {sc : Scope} {x : Expr}, isE N (.call f args) sc x = true → ∃ p es q, x = .Call (.Name f p) es [] q ∧ glB sc f = true ∧ okNm f = true ∧ isEs N args sc es = true := by
    intro N sc x h
    cases x with
    | Call fn es kw q =>
      match fn, kw, h with
      | .Name y p, [], h =>
        have h : (decide (y = f) && (glB sc y && (okNm y && isEs N args sc es))) = true := h
        simp only [Bool.and_eq_true, decide_eq_true_eq] at h
        obtain ⟨h1, h2, h3, h4⟩ := h
        subst h1
        exact ⟨p, es, q, rfl, h2, h3, h4⟩
      | .Name _ _, _ :: _, h => cases h
      | .BoolOp _ _ _, _, h | .NamedExpr _ _ _, _, h | .BinOp _ _ _ _, _, h | .UnaryOp _ _ _, _, h | .Lambda _ _ _ _, _, h | .IfExp _ _ _ _, _, h | .Dict _ _ _, _, h | .Set _ _ _, _, h | .ListComp _ _ _ _, _, h | .SetComp _ _ _ _, _, h | .DictComp _ _ _ _ _, _, h | .GeneratorExp _ _ _ _, _, h | .Await _ _, _, h | .Yield _ _, _, h | .YieldFrom _ _, _, h | .Compare _ _ _ _, _, h | .Call _ _ _ _, _, h | .FormattedValue _ _ _ _, _, h | .JoinedStr _ _, _, h | .Constant _ _ _, _, h | .Attribute _ _ _, _, h | .Subscript _ _ _, _, h | .Starred _ _, _, h | .List _ _, _, h | .Tuple _ _ _, _, h | .Slice _ _ _ _, _, h => cases h
    | _ => cases h
  refine snd_val (fun {X N sc} G {x} h => ?_) (fun N sc x env h => by obtain ⟨p, es, q, rfl, _⟩ := main h; intro _; rfl) rfl (fun _ _ _ => rfl) (fun _ _ _ _ => rfl)
  obtain ⟨p, es, q, rfl, h2, h3, h4⟩ := main h
  intro env st σ H ρ Q re rs hp
  have hp : PostV X.K ρ H (callX F f (evalE F args env st)) Q := hp
  have cs : ∃ xs s1, evalE F args env st = .ok (.tup xs) s1 := by
    cases e : evalE F args env st with
    | ok w s1 =>
      cases w with
      | tup xs => exact ⟨xs, s1, rfl⟩
      | _ => rw [e] at hp; exact hp.elim
    | exc c v s1 =>
      rw [e] at hp
      unfold callX at hp
      simp only at hp
      split at hp <;> exact hp.elim
    | stuck => rw [e] at hp; exact hp.elim
  obtain ⟨xs, s1, e1⟩ := cs
  rw [e1] at hp
  have dummy : True := trivial
  cases dummy with
  | intro =>
    have hp : PostV X.K ρ H (F.fn f xs s1) Q := hp
    have hok : ∃ args st, F.fn f args st ≠ .stuck := ⟨xs, s1, fun z => by rw [z] at hp; exact hp.elim⟩
    obtain ⟨a, fd, ps, m1, m2, m3, m4⟩ := G.fns f (.inl hok)
    have pl := isEs_plain h4
    have use : WA X es σ H (fun vs H1 => spOf X.K F f (vs ++ []) H1 Q E0) := by
      refine sa_use (ha.a G h4) re rs e1 fun vs H1 ρ1 x1 g1 rs1 re1 rv1 => ?_
      rw [List.append_nil]
      exact ⟨xs, s1, ρ1, rv1, rs1, .inl (hp.mono x1 g1)⟩
    cases es with
    | nil =>
      refine of_pe (pe_call0 m4 G.room (G.glo h2) m1 m2 m3 .nil passF (okNm1 h3)) ?_
      have := use
      cases args with
      | nil =>
        cases e1
        show spOf X.K F f ([] ++ []) H Q E0
        exact ⟨[], st, ρ, .nil, rs, .inl hp⟩
      | cons _ _ => cases h4
      | _ => exact absurd h4 (by simp [isEs])
    | cons y es =>
      rw [List.all_cons, Bool.and_eq_true] at pl
      exact of_pe (pe_call m4 G.room (G.glo h2) m1 m2 m3 .nil passF WA.pa (okNm1 h3) (plain_star pl.1) (plain_any pl.2)) use
theorem s_bi {b : Bi} {args : CE} (ha : Snd F k args) : Snd F k (.bi b args) := by
  have main : ∀ {N : List Str} {sc : Scope} {x : Expr}, isE N (.bi b args) sc x = true → ∃ p e es q, x = .Call (.Name (biName b) p) (e :: es) [] q ∧ glB sc (biName b) = true ∧ isEs N args sc (e :: es) = true := by
    intro N sc x h
    cases x with
    | Call fn es kw q =>
      match fn, kw, h with
      | .Name y p, [], h =>
        have h : (decide (y = biName b) && (glB sc y && (!es.isEmpty && isEs N args sc es))) = true := h
        simp only [Bool.and_eq_true, decide_eq_true_eq] at h
        obtain ⟨h1, h2, h3, h4⟩ := h
        subst h1
        cases es with
        | nil => cases h3
        | cons e es => exact ⟨p, e, es, q, rfl, h2, h4⟩
      | .Name _ _, _ :: _, h => cases h
      | .BoolOp _ _ _, _, h | .NamedExpr _ _ _, _, h | .BinOp _ _ _ _, _, h | .UnaryOp _ _ _, _, h | .Lambda _ _ _ _, _, h | .IfExp _ _ _ _, _, h | .Dict _ _ _, _, h | .Set _ _ _, _, h | .ListComp _ _ _ _, _, h | .SetComp _ _ _ _, _, h | .DictComp _ _ _ _ _, _, h | .GeneratorExp _ _ _ _, _, h | .Await _ _, _, h | .Yield _ _, _, h | .YieldFrom _ _, _, h | .Compare _ _ _ _, _, h | .Call _ _ _ _, _, h | .FormattedValue _ _ _ _, _, h | .JoinedStr _ _, _, h | .Constant _ _ _, _, h | .Attribute _ _ _, _, h | .Subscript _ _ _, _, h | .Starred _ _, _, h | .List _ _, _, h | .Tuple _ _ _, _, h | .Slice _ _ _ _, _, h => cases h
    | _ => cases h
  refine snd_val (fun {X N sc} G {x} h => ?_) (fun N sc x env h => by obtain ⟨p, e, es, q, rfl, _⟩ := main h; intro _; rfl) rfl (fun _ _ _ => rfl) (fun _ _ _ _ => rfl)
  obtain ⟨p, e, es, q, rfl, h2, h4⟩ := main h
  intro env st σ H ρ Q re rs hp
  obtain ⟨w, s1, e1, hp⟩ := PostV.bnd (r := evalE F args env st) hp
  cases w with
  | tup xs =>
    have pl := isEs_plain h4
    rw [List.all_cons, Bool.and_eq_true] at pl
    have use : WA X (e :: es) σ H (fun vs H1 => WCall X (biVal b) vs H1 Q) := by
      refine sa_use (ha.a G h4) re rs e1 fun vs H1 ρ1 x1 g1 rs1 re1 rv1 => ?_
      exact bi_ok G.calm rs1 rv1 (PostV.mono hp x1 g1)
    cases b with
    | len => exact of_pe (pe_callB (id := "len") WCall.r (G.glo h2) (G.free _ (by decide)) PySem.boot_len WA.pa (by decide) (by decide) (plain_star pl.1) (plain_any pl.2)) use
    | abs => exact of_pe (pe_callB (id := "abs") WCall.r (G.glo h2) (G.free _ (by decide)) (by decide +kernel) WA.pa (by decide) (by decide) (plain_star pl.1) (plain_any pl.2)) use
    | max => exact of_pe (pe_callB (id := "max") WCall.r (G.glo h2) (G.free _ (by decide)) (by decide +kernel) WA.pa (by decide) (by decide) (plain_star pl.1) (plain_any pl.2)) use
    | min => exact of_pe (pe_callB (id := "min") WCall.r (G.glo h2) (G.free _ (by decide)) (by decide +kernel) WA.pa (by decide) (by decide) (plain_star pl.1) (plain_any pl.2)) use
    | sum => exact of_pe (pe_callB (id := "sum") WCall.r (G.glo h2) (G.free _ (by decide)) (by decide +kernel) WA.pa (by decide) (by decide) (plain_star pl.1) (plain_any pl.2)) use
    | all => exact of_pe (pe_callB (id := "all") WCall.r (G.glo h2) (G.free _ (by decide)) (by decide +kernel) WA.pa (by decide) (by decide) (plain_star pl.1) (plain_any pl.2)) use
    | int => exact of_pe (pe_callTy (T := "int") WCall.r (G.glo h2) (G.free _ (by decide)) (by decide +kernel) WA.pa (by decide) (by decide) (plain_star pl.1) (plain_any pl.2)) use
    | str => exact of_pe (pe_callTy (T := "str") WCall.r (G.glo h2) (G.free _ (by decide)) (by decide +kernel) WA.pa (by decide) (by decide) (plain_star pl.1) (plain_any pl.2)) use
    | list => exact of_pe (pe_callTy (T := "list") WCall.r (G.glo h2) (G.free _ (by decide)) (by decide +kernel) WA.pa (by decide) (by decide) (plain_star pl.1) (plain_any pl.2)) use
    | tuple => exact of_pe (pe_callTy (T := "tuple") WCall.r (G.glo h2) (G.free _ (by decide)) (by decide +kernel) WA.pa (by decide) (by decide) (plain_star pl.1) (plain_any pl.2)) use
  | _ => exact hp.elim
theorem s_isi {t : Ty} {a : CE} (ha : Snd F k a) : Snd F k (.isi t a) := by
  have main : ∀ {N : List Str} {sc : Scope} {x : Expr}, isE N (.isi t a) sc x = true → ∃ p y p2 q, x = .Call (.Name "isinstance" p) [y, .Name (tyStr t) p2] [] q ∧ glB sc "isinstance" = true ∧ glB sc (tyStr t) = true ∧ plainX y = true ∧ isE N a sc y = true := by
    intro N sc x h
    unfold isE at h
    split at h
    · rename_i x' p y z p2 q
      simp only [Bool.and_eq_true, decide_eq_true_eq] at h
      obtain ⟨h1, h2, h3, h4, h5, h6⟩ := h
      subst h1 h3
      exact ⟨p, y, p2, q, rfl, h2, h4, h5, h6⟩
    · cases h
  refine snd_val (fun {X N sc} G {x} h => ?_) (fun N sc x env h => by obtain ⟨p, y, p2, q, rfl, _⟩ := main h; intro _; rfl) rfl (fun _ _ _ => rfl) (fun _ _ _ _ => rfl)
  obtain ⟨p, y, p2, q, rfl, h1, h2, h3, h4⟩ := main h
  intro env st σ H ρ Q re rs hp
  obtain ⟨v, s1, e1, hp⟩ := PostV.bnd (r := evalE F a env st) hp
  have ty : PE X (.Name (tyStr t) p2) (tC (.ty (tyNm t))) := by
    cases t with
    | int => exact pe_bltn (G.glo h2) (G.free _ (by decide)) (u := .type "int") (by decide +kernel) rfl (by decide) (by decide)
    | bool => exact pe_bltn (G.glo h2) (G.free _ (by decide)) (u := .type "bool") (by decide +kernel) rfl (by decide) (by decide)
    | str => exact pe_bltn (G.glo h2) (G.free _ (by decide)) (u := .type "str") (by decide +kernel) rfl (by decide) (by decide)
    | tuple => exact pe_bltn (G.glo h2) (G.free _ (by decide)) (u := .type "tuple") (by decide +kernel) rfl (by decide) (by decide)
    | list => exact pe_bltn (G.glo h2) (G.free _ (by decide)) (u := .type "list") (by decide +kernel) rfl (by decide) (by decide)
  refine of_pe (pe_callB (id := "isinstance") call_isi (G.glo h1) (G.free _ (by decide)) (by decide +kernel) (pa_cons WE.pe (pa_cons ty pa_nil) (plain_star h3)) (by decide) (by decide) (plain_star h3) (by rfl)) ?_
  refine se_use (ha.e G h4) re rs e1 fun V H1 ρ1 x1 g1 rs1 re1 rv1 => ?_
  cases e2 : isInst t s1 v with
  | none => rw [e2] at hp; exact hp.elim
  | some b =>
    rw [e2] at hp
    exact isi_ok rs1 rv1 e2 (PostV.here (PostV.mono hp x1 g1) rs1 (.bool _))
theorem exc_cases {c : Str} (h : c ∈ excAll) : c = "ScoreError" ∨ c = "ValueError" ∨ c = "Over" ∨ c ∈ exc0 := by
  simp only [excAll, List.mem_cons] at h
  exact h
theorem exc_ndb {c : Str} (h : c ∈ excAll) : (c == ("__debug__" : Str)) = false := by
  have : ∀ c ∈ excAll, (c == ("__debug__" : Str)) = false := by decide +kernel
  exact this c h
theorem s_isx {c : Str} {a : CE} (ha : Snd F k a) : Snd F k (.isx c a) := by
  have main : ∀ {N : List Str} {sc : Scope} {x : Expr}, isE N (.isx c a) sc x = true → ∃ p y p2 q, x = .Call (.Name "isinstance" p) [y, .Name c p2] [] q ∧ glB sc "isinstance" = true ∧ glB sc c = true ∧ c ∈ excAll ∧ plainX y = true ∧ isE N a sc y = true := by
    intro N sc x h
    unfold isE at h
    split at h
    · rename_i x' p y z p2 q
      simp only [Bool.and_eq_true, decide_eq_true_eq] at h
      obtain ⟨h1, h2, h3, h4, h7, h5, h6⟩ := h
      subst h1 h3
      exact ⟨p, y, p2, q, rfl, h2, h4, h7, h5, h6⟩
    · cases h
  refine snd_val (fun {X N sc} G {x} h => ?_) (fun N sc x env h => by obtain ⟨p, y, p2, q, rfl, _⟩ := main h; intro _; rfl) rfl (fun _ _ _ => rfl) (fun _ _ _ _ => rfl)
  obtain ⟨p, y, p2, q, rfl, h1, h2, h7, h3, h4⟩ := main h
  intro env st σ H ρ Q re rs hp
  have hp : PostV X.K ρ H (if F.fuel % 2 = 1 then ((evalE F a env st).bind fun x s1 => match isExc c s1 x with | some b => Res.ok (Val.bool b) s1 | none => .stuck) else .stuck) Q := hp
  by_cases hx : F.fuel % 2 = 1
  · rw [if_pos hx] at hp
    have O := G.exc hx
    obtain ⟨v, s1, e1, hp⟩ := PostV.bnd (r := evalE F a env st) hp
    have ty : ∃ (cv : V) (u : Value), PE X (.Name c p2) (tC cv) ∧ (∀ w, RelV cv w → w = u) ∧ ∀ c1 : Str, (c1 = "Over" ∨ c1 ∈ exc0) → PySem.W.kitOne X.K (.ref (cA X.K c1)) u = some (excSub c1 c) := by
      rcases exc_cases h7 with e | e | e | e
      · exact ⟨.ref (cA X.K c), .ref (cA X.K c), pe_glob (G.glo h2) (O.gl c (.inl e)) rfl (exc_ndb h7), fun w z => z, fun c1 h => O.kit c1 c h (.inl e)⟩
      · subst e
        exact ⟨.ty "ValueError", .type "ValueError", pe_bltn (G.glo h2) O.ve (u := .type "ValueError") (by decide +kernel) rfl (by decide) (by decide), fun w z => z, fun c1 h => by rw [O.kitV c1 h]; simp [excSub]⟩
      · exact ⟨.ref (cA X.K c), .ref (cA X.K c), pe_glob (G.glo h2) (O.gl c (.inr (.inl e))) rfl (exc_ndb h7), fun w z => z, fun c1 h => O.kit c1 c h (.inr (.inl e))⟩
      · exact ⟨.ref (cA X.K c), .ref (cA X.K c), pe_glob (G.glo h2) (O.gl c (.inr (.inr e))) rfl (exc_ndb h7), fun w z => z, fun c1 h => O.kit c1 c h (.inr (.inr e))⟩
    obtain ⟨cv, u, ty, hu, hk⟩ := ty
    refine of_pe (pe_callB (id := "isinstance") call_isK (G.glo h1) (G.free _ (by decide)) (by decide +kernel) (pa_cons WE.pe (pa_cons ty pa_nil) (plain_star h3)) (by decide) (by decide) (plain_star h3) (by rfl)) ?_
    refine se_use (ha.e G h4) re rs e1 fun V H1 ρ1 x1 g1 rs1 re1 rv1 => ?_
    cases e2 : isExc c s1 v with
    | none => rw [e2] at hp; exact hp.elim
    | some b =>
      rw [e2] at hp
      cases v with
      | ref m =>
        have e2 : (match s1[m]? with | some (.inst c' _) => some (excSub c' c) | _ => none) = some b := e2
        split at e2
        · rename_i c' fs hm
          cases e2
          cases rv1 with
          | ref hr =>
            rename_i ad
            obtain ⟨C, d, n1, n2, n3, n4⟩ := rs1.at_ hm hr
            have hC : C = cA X.K c' := by
              unfold cA; rw [n1]
            have hd : d = none ∨ ∃ dd fs, d = some dd ∧ H1 dd = some (.xd fs) := by
              unfold FsR at n3
              split at n3
              · exact .inl n3
              · obtain ⟨dd, u, z1, z2, _⟩ := n3
                exact .inr ⟨dd, _, z1, z2⟩
              · exact n3.elim
            exact ⟨ad, C, d, cv, u, _, rfl, ⟨n2, hd⟩, by rw [hC]; exact O.isC c' n4, hu, by rw [hC]; exact hk c' n4, PostV.here (PostV.mono hp x1 g1) rs1 (.bool _)⟩
        · cases e2
      | _ => cases e2
  · rw [if_neg hx] at hp
    exact hp.elim
theorem s_fld {f : Str} {a : CE} (ha : Snd F k a) : Snd F k (.fld f a) := by
  have main : ∀ {N : List Str} {sc : Scope} {x : Expr}, isE N (.fld f a) sc x = true → ∃ y p q, x = .Attribute (.Name y p) f q ∧ isE N a sc (.Name y p) = true := by
    intro N sc x h
    unfold isE at h
    split at h
    · rename_i y p g q
      simp only [Bool.and_eq_true, decide_eq_true_eq] at h
      obtain ⟨h1, h2⟩ := h
      subst h1
      exact ⟨y, p, q, rfl, h2⟩
    · cases h
  refine snd_val (fun {X N sc} G {x} h => ?_) (fun N sc x env h => by obtain ⟨y, p, q, rfl, _⟩ := main h; intro _; rfl) rfl (fun _ _ _ => rfl) (fun _ _ _ _ => rfl)
  obtain ⟨y, p, q, rfl, h1⟩ := main h
  intro env st σ H ρ Q re rs hp
  have hp : PostV X.K ρ H (if F.fuel % 2 = 1 then ((evalE F a env st).bind fun x s1 => match fldAt f s1 x with | some v => Res.ok v s1 | none => .stuck) else .stuck) Q := hp
  by_cases hx : F.fuel % 2 = 1
  · rw [if_pos hx] at hp
    have O := G.exc hx
    obtain ⟨v, s1, e1, hp⟩ := PostV.bnd (r := evalE F a env st) hp
    refine of_pe (pe_fldK WE.pe) ?_
    refine se_use (ha.e G h1) re rs e1 fun V H1 ρ1 x1 g1 rs1 re1 rv1 => ?_
    cases e2 : fldAt f s1 v with
    | none => rw [e2] at hp; exact hp.elim
    | some w =>
      rw [e2] at hp
      cases v with
      | ref m =>
        have e2 : (match s1[m]? with | some (.inst c fs) => if c = "Over" ∧ f = "at" then fs.lookup f else none | _ => none) = some w := e2
        split at e2
        · rename_i c' fs hm
          by_cases hcf : c' = "Over" ∧ f = "at"
          case neg => rw [if_neg hcf] at e2; cases e2
          rw [if_pos hcf] at e2
          cases rv1 with
          | ref hr =>
            rename_i ad
            obtain ⟨C, d, n1, n2, n3, n4⟩ := rs1.at_ hm hr
            have hC : C = cA X.K c' := by
              unfold cA; rw [n1]
            unfold FsR at n3
            split at n3
            · cases e2
            · rename_i g u
              obtain ⟨dd, uv, z1, z2, z3⟩ := n3
              subst z1
              have hfg : g = f ∧ u = w := by
                rw [List.lookup_cons] at e2
                cases q : f == g with
                | true => rw [q] at e2; cases e2; exact ⟨(beq_iff_eq.mp q).symm, rfl⟩
                | false => rw [q] at e2; cases e2
              obtain ⟨rfl, rfl⟩ := hfg
              obtain ⟨fI, T⟩ := O.over
              rw [hcf.1] at hC
              refine ⟨ad, C, dd, _, uv, rfl, n2, z2, by simp [List.lookup_cons], ?_, ?_, (PostV.mono hp x1 g1) uv H1 ρ1 Ex.refl Gr.refl rs1 z3⟩
              · rw [hC]; exact ⟨T.ga, T.gg, T.exC, T.hdC⟩
              · rw [hC, hcf.2]; exact T.noN
            · exact n3.elim
        · cases e2
      | _ => cases e2
  · rw [if_neg hx] at hp
    exact hp.elim
theorem mt_facts (m : Mt) : PlainAttrs (mtTy m) ∧ Slot (mtTy m) (mtName m) (mtId m) ∧ typeOf (.builtin (mtId m)) = pure (.type "method_descriptor") := by
  cases m with
  | append => exact ⟨PySem.F.plainAttrs_list, PySem.F.slot_list_append, PySem.F.type_list_append⟩
  | extend => exact ⟨PySem.F.plainAttrs_list, PySem.F.slot_list_extend, PySem.F.type_list_extend⟩
  | pop => exact ⟨PySem.F.plainAttrs_list, PySem.F.slot_list_pop, PySem.F.type_list_pop⟩
  | count => exact ⟨PySem.F.plainAttrs_list, PySem.F.slot_list_count, PySem.F.type_list_count⟩
  | index => exact ⟨PySem.F.plainAttrs_list, PySem.F.slot_list_index, PySem.F.type_list_index⟩
  | get => exact ⟨PySem.F.plainAttrs_dict, PySem.F.slot_dict_get, PySem.F.type_dict_get⟩
theorem s_meth {m : Mt} {o args : CE} (ho : Snd F k o) (ha : Snd F k args) : Snd F k (.meth m o args) := by
  have main : ∀ {N : List Str} {sc : Scope} {x : Expr}, isE N (.meth m o args) sc x = true → ∃ y ap es cp, x = .Call (.Attribute y (mtName m) ap) es [] cp ∧ (ap.endLine == cp.line) = true ∧ noSuper y = true ∧ es.length < 20 ∧ isE N o sc y = true ∧ isEs N args sc es = true := by
    intro N sc x h
    unfold isE at h
    split at h
    · rename_i y nm ap es cp
      simp only [Bool.and_eq_true, decide_eq_true_eq] at h
      obtain ⟨h1, h2, h3, h4, h5, h6⟩ := h
      subst h1
      exact ⟨y, ap, es, cp, rfl, h2, h3, h4, h5, h6⟩
    · cases h
  refine snd_val (fun {X N sc} G {x} h => ?_) (fun N sc x env h => by obtain ⟨y, ap, es, cp, rfl, _⟩ := main h; intro _; rfl) rfl (fun _ _ _ => rfl) (fun _ _ _ _ => rfl)
  obtain ⟨y, ap, es, cp, rfl, h1, h2, h3, h4, h5⟩ := main h
  intro env st σ H ρ Q re rs hp
  obtain ⟨v, s1, e1, hp⟩ := PostV.bnd (r := evalE F o env st) hp
  obtain ⟨hk, hp⟩ := PostV.need hp
  obtain ⟨w, s2, e2, hp⟩ := PostV.bnd (r := evalE F args env s1) hp
  obtain ⟨f1, f2, f3⟩ := mt_facts m
  cases w with
  | tup xs =>
    have hp : PostV X.K ρ H (metop m v xs s2) Q := hp
    have pl := isEs_plain h5
    cases es with
    | nil =>
      refine of_pe (pe_bm0 f1 f2 f3 WMt.r WE.pe (noSuper_base h2) h1) (se_use (ho.e G h4) re rs e1 fun V H1 ρ1 x1 g1 rs1 re1 rv1 => ⟨mt_ty rs1 rv1 hk, ?_⟩)
      cases args with
      | nil =>
        cases e2
        exact meth_ok G.units rs1 rv1 .nil (hp.mono x1 g1)
      | cons _ _ => cases h5
      | _ => exact absurd h5 (by simp [isEs])
    | cons e es =>
      have pl0 := pl
      rw [List.all_cons, Bool.and_eq_true] at pl
      refine of_pe (pe_bm f1 f2 f3 WMt.r WE.pe WA.pa (noSuper_base h2) ?_ h1 (plain_star pl.1) (plain_any pl.2)) (se_use (ho.e G h4) re rs e1 fun V H1 ρ1 x1 g1 rs1 re1 rv1 => ⟨mt_ty rs1 rv1 hk, ?_⟩)
      · rw [plain_all pl0]
        show (true && true && decide ((e :: es).length + 0 + 0 < 30)) = true
        rw [decide_eq_true (by omega)]; rfl
      · refine sa_use (ha.a G h5) re1 rs1 e2 fun vs H2 ρ2 x2 g2 rs2 re2 rv2 => ?_
        exact meth_ok G.units rs2 (RV.mono x2 g2 _ _ rv1) rv2 (hp.mono (x1.trans x2) (g1.trans g2))
  | _ => exact hp.elim
theorem pairs_keys {K : PySem.W.Frag} {ρ : List Addr} {H : Hp} : ∀ {xs : List Val} {ps : List (V × V)} {kvs : List (Sum Int Str × Val)}, RVs K ρ H xs (ps.flatMap fun p => [p.1, p.2]) → toPairs xs = some kvs → ∃ ws : List (Key × V), ps = ws.map (fun kv => (kV kv.1, kv.2)) ∧ KVs K ρ H kvs ws
  | xs, [], kvs, h, e => by
    cases h
    cases e
    exact ⟨[], rfl, .nil⟩
  | xs, (a, b) :: ps, kvs, h, e => by
    have h : RVs K ρ H xs (a :: b :: ps.flatMap fun p => [p.1, p.2]) := h
    cases h with
    | @cons x _ xs _ h1 h =>
      cases h with
      | @cons y _ xs _ h2 h3 =>
        have e : ((keyOf x).bind fun z => (toPairs xs).map ((z, y) :: ·)) = some kvs := e
        cases q : keyOf x with
        | none => rw [q] at e; cases e
        | some z =>
          rw [q] at e
          have e : (toPairs xs).map ((z, y) :: ·) = some kvs := e
          cases q2 : toPairs xs with
          | none => rw [q2] at e; cases e
          | some ks =>
            rw [q2] at e
            cases e
            obtain ⟨ws, w1, w2⟩ := pairs_keys h3 q2
            refine ⟨(z, b) :: ws, ?_, .cons h2 w2⟩
            rw [List.map_cons, ← w1]
            have : a = kV z := by
              cases h1 <;> first | (cases q; done) | (cases q; rfl)
            rw [this]
theorem s_dict {ps : CE} (hs : Snd F k ps) : Snd F k (.dict ps) := by
  refine snd_val (fun {X N sc} G {x} h => ?_) (fun N sc x env h => by cases x <;> first | (intro _; rfl) | cases h) rfl (fun _ _ _ => rfl) (fun _ _ _ _ => rfl)
  intro env st σ H ρ Q re rs hp
  cases x with
  | Dict ks vs p =>
    have h : (decide (ks ≠ []) && (decide (ks.length ≤ 15) && isPs N ps sc ks vs)) = true := h
    simp only [Bool.and_eq_true, decide_eq_true_eq] at h
    obtain ⟨h1, h2, h3⟩ := h
    obtain ⟨q1, q2, q3⟩ := hs.p G h3
    obtain ⟨trs, p1, p2⟩ := q1 p
    obtain ⟨w, s1, e1, hp⟩ := PostV.bnd (r := evalE F ps env (st ++ [.dict []])) hp
    cases w with
    | tup xs =>
      have hp : PostV X.K ρ H (match s1[st.length]?, toPairs xs with
        | some (.dict []), some kvs => need (kvs.length ≤ 15) (.ok (.ref st.length) (s1.set st.length (.dict (mergeKV [] kvs))))
        | _, _ => .stuck) Q := hp
      split at hp
      · rename_i kvs d1 d2
        obtain ⟨hl, hp⟩ := PostV.need hp
        refine of_pe (pe_disp p1 q2 q3 h1 h2) fun a ha => ?_
        have hg : Gr X.K H (upd H a (.dK [])) := Gr.new ha
        have rs0 : RS X.K (ρ ++ [a]) (upd H a (.dK [])) (st ++ [.dict []]) := rs.alloc ha ⟨[], upd_same, .nil⟩
        have x0 : Ex ρ (ρ ++ [a]) := ⟨[a], rfl⟩
        refine p2 env (st ++ [.dict []]) σ _ (ρ ++ [a]) _ (re.mono x0 hg) rs0 ?_
        rw [e1]
        intro prs H2 ρ2 x2 g2 rs2 rv2
        have ea : ρ2[st.length]? = some a := x2.get (by rw [← rs.len, List.getElem?_append_right (Nat.le_refl _)]; simp)
        obtain ⟨ws, w1, w2⟩ := pairs_keys rv2 d2
        obtain ⟨ws0, c1, c2⟩ := rs2.at_ d1 ea
        have c3 : H2 a = some (.dK []) := by cases c2; exact c1
        refine ⟨c3, ws, w1, by rw [← w2.length]; exact hl, ?_⟩
        have hg3 : Gr X.K H2 (upd H2 a (.dK (mergeK [] ws))) := Gr.write c3 (fun _ z => nomatch z) (fun _ _ z => nomatch z)
        exact hp (.ref a) _ ρ2 (x0.trans x2) (hg.trans (g2.trans hg3)) (rs2.write d1 ea rfl rfl hg3 ⟨_, upd_same, KVs.mono Ex.refl hg3 (KVs.merge w2 .nil)⟩) (.ref ea)
      · exact hp.elim
    | _ => exact hp.elim
  | _ => cases h
end
end Ev

set_option Elab.async false
set_option linter.all false
set_option maxRecDepth 100000
set_option maxHeartbeats 4000000
/-! ## What is walked; comprehensions; all expressions -/
namespace Ev
open PySem PySem.Spec PyProof.Rows L2

def WI (X : Cx) (tg iter : Expr) : TI := fun σ H R => ∀ (pins : List (Addr × Obj)) (s : Shared), Inv X pins σ H s → wpAny (model X.prog X.w) X.A (eval iter X.env) (fun v s1 => wpAny (model X.prog X.w) X.A (pyIter v) (PIE X pins σ tg R) X.xe s1) X.xe s
theorem WI.pi {X : Cx} {tg iter : Expr} : PI X tg iter (WI X tg iter) := ⟨fun pins s _ _ _ I h => h pins s I⟩
theorem of_pi {X : Cx} {tg iter : Expr} {wi : TI} {σ : L2.St} {H : Hp} {R : It → Hp → Prop} (h : PI X tg iter wi) (q : wi σ H R) : WI X tg iter σ H R := fun pins s I => h.run pins s σ H R I q
def JOk (K : PySem.W.Frag) (ρ1 : List Addr) (H1 : Hp) (J : It) (k : Src) (v : Val) (xs : List Val) : Prop :=
  ∀ (ρ' : List Addr) (Hc : Hp) (st' : Store), Ex ρ1 ρ' → Gr K H1 Hc → RS K ρ' Hc st' → stays k v xs st' → ∀ i, (i < xs.length → J.go i Hc) ∧ (∀ x H' y, xs[i]? = some y → J.yld i Hc x H' → H' = Hc ∧ RV K ρ' Hc y x) ∧ (xs.length ≤ i → J.stop i Hc)
def isSrc (N : List Str) (k : Src) (src : CE) (sc : Scope) (it : Expr) : Bool := match k with
  | .seq => isE N src sc it
  | .range => (match it with | .Call (.Name x _) [z] [] _ => decide (x = "range") && (glB sc x && isEs N src sc [z]) | _ => false)
section
variable {F : Fns} {k : Nat}
theorem src_use {X : Cx} {N : List Str} {sc : Scope} (G : Good X N sc F k) {kd : Src} {src : CE} (hs : Snd F k src) {tg it : Expr} (h : isSrc N kd src sc it = true) {env : Env} {st s1 : Store} {v : Val} {xs : List Val} {σ : L2.St} {H : Hp} {ρ : List Addr} {R : It → Hp → Prop}
    (re : RE X.K ρ H env σ) (rs : RS X.K ρ H st) (e1 : evalE F src env st = .ok v s1) (e2 : srcItems kd v s1 = some xs)
    (hq : ∀ J H1 ρ1, Ex ρ ρ1 → Gr X.K H H1 → RS X.K ρ1 H1 s1 → RE X.K ρ1 H1 env σ → JOk X.K ρ1 H1 J kd v xs → R J H1) : WI X tg it σ H R := by
  cases kd with
  | seq =>
    have h : isE N src sc it = true := h
    cases v with
    | tup ys =>
      cases e2
      refine of_pi (pi_tup WE.pe) (se_use (hs.e G h) re rs e1 fun V H1 ρ1 x1 g1 rs1 re1 rv1 => ?_)
      cases rv1 with
      | @tup _ a vs hs hv =>
        refine ⟨a, rfl, ⟨vs, hs⟩, hq _ H1 ρ1 x1 g1 rs1 re1 fun ρ' Hc st' x2 g2 rs2 _ i => ?_⟩
        have hs2 := g2.tup _ _ hs
        have hv2 := RVs.mono x2 g2 _ _ hv
        refine ⟨fun hi => ?_, fun x H' y hy hx => ?_, fun hi => ⟨vs, hs2, by rw [← hv2.length]; exact hi⟩⟩
        · obtain ⟨w, w1, _⟩ := hv2.get (List.getElem?_eq_getElem hi)
          exact ⟨vs, w, hs2, w1⟩
        · obtain ⟨e3, e4⟩ := hx
          obtain ⟨w, w1, w2⟩ := hv2.get hy
          have := e4 vs hs2
          rw [w1] at this
          cases this
          exact ⟨e3, w2⟩
    | ref n =>
      have e2 : listAt s1 n = some xs := e2
      refine of_pi (pi_list WE.pe) (se_use (hs.e G h) re rs e1 fun V H1 ρ1 x1 g1 rs1 re1 rv1 => ?_)
      cases rv1 with
      | @ref _ a hn =>
        obtain ⟨vs, hs, hv⟩ := rs1.list e2 hn
        refine ⟨a, rfl, ⟨vs, hs⟩, hq _ H1 ρ1 x1 g1 rs1 re1 fun ρ' Hc st' x2 g2 rs2 hst i => ?_⟩
        have hst : listAt st' n = some xs := hst
        obtain ⟨vs2, hs2, hv2⟩ := rs2.list hst (x2.get hn)
        refine ⟨fun hi => ?_, fun x H' y hy hx => ?_, fun hi => ⟨vs2, hs2, by rw [← hv2.length]; exact hi⟩⟩
        · obtain ⟨w, w1, _⟩ := hv2.get (List.getElem?_eq_getElem hi)
          exact ⟨vs2, w, hs2, w1⟩
        · obtain ⟨e3, e4⟩ := hx
          obtain ⟨w, w1, w2⟩ := hv2.get hy
          have := e4 vs2 hs2
          rw [w1] at this
          cases this
          exact ⟨e3, w2⟩
    | _ => cases e2
  | range =>
    unfold isSrc at h
    simp only at h
    split at h
    · rename_i x p z q
      simp only [Bool.and_eq_true, decide_eq_true_eq] at h
      obtain ⟨h1, h2, h3⟩ := h
      subst h1
      have pl := isEs_plain h3
      rw [List.all_cons, Bool.and_eq_true] at pl
      have : ∃ n : Int, v = .tup [.int n] ∧ (n < 2 ^ 62 ∧ -(2 ^ 62) ≤ n) ∧ xs = (List.range n.toNat).map fun (j : Nat) => Val.int (j : Int) := by
        unfold srcItems at e2
        split at e2
        · rename_i h0; cases h0
        · rename_i h0; cases h0
        · rename_i w n hz
          split at e2
          · cases e2; exact ⟨n, rfl, by assumption, rfl⟩
          · cases e2
        · cases e2
      obtain ⟨n, rfl, hb, rfl⟩ := this
      refine of_pi (pi_range1 (G.glo h2) (G.free _ (by decide)) WA.pa (plain_star pl.1)) (sa_use (hs.a G h3) re rs e1 fun vs H1 ρ1 x1 g1 rs1 re1 rv1 => ?_)
      cases rv1 with
      | cons r1 r2 =>
        cases r2
        cases r1
        refine ⟨n, rfl, hb.2, hb.1, hq _ H1 ρ1 x1 g1 rs1 re1 fun ρ' Hc st' x2 g2 rs2 hst i => ?_⟩
        refine ⟨fun hi => ?_, fun x H' y hy hx => ?_, fun hi => ?_⟩
        · rw [List.length_map, List.length_range] at hi; exact hi
        rotate_left
        · rw [List.length_map, List.length_range] at hi; exact hi
        obtain ⟨e3, e4⟩ := hx
        subst e4
        rw [List.getElem?_map] at hy
        cases q2 : (List.range n.toNat)[i]? with
        | none => rw [q2] at hy; cases hy
        | some j =>
          rw [q2] at hy
          have hj : i = j := by
            have := List.getElem?_eq_some_iff.mp q2
            obtain ⟨h5, h6⟩ := this
            rw [List.getElem_range] at h6
            exact h6
          subst hj
          cases hy
          refine ⟨e3, ?_⟩
          rw [Int.zero_add]
          exact .int _
    · cases h

/-! ### comprehensions -/
def WTs (X : Cx) (ifs : List Expr) : TT := fun σ H Q => ∃ t, PTs X ifs t ∧ t σ H Q
theorem WTs.pts {X : Cx} {ifs : List Expr} : PTs X ifs (WTs X ifs) := ⟨fun pins s σ H Q I h => by obtain ⟨t, p, q⟩ := h; exact p.run pins s σ H Q I q⟩
/-- the readings of a block, whatever its frame -/
def tElt (X : Cx) (scope : Scope) (el : Expr) : TE := fun σ H Q => ∀ (s : Shared) (H0 : Hp) (C : Addr) (cl : List (Str × Addr)) (fp : List Addr), WE (X.blk s H0 scope (compEnvC scope cl C X.env) fp) el σ H Q
def tIfs (X : Cx) (scope : Scope) (ifs : List Expr) : TT := fun σ H Q => ∀ (s : Shared) (H0 : Hp) (C : Addr) (cl : List (Str × Addr)) (fp : List Addr), WTs (X.blk s H0 scope (compEnvC scope cl C X.env) fp) ifs σ H Q
theorem isE_comp {N : List Str} {kd : Src} {i : Nat} {src cond elt : CE} {sc : Scope} {x : Expr} (h : isE N (.comp kd i src cond elt) sc x = true) :
    ∃ el y p it ifs scope q, x = .ListComp el [⟨.Name y p, it, ifs, 0⟩] scope q ∧ blkC N sc scope [(y, i)] = true ∧ N[i]? = some y ∧ (relS scope sc).names.lookup y = some .local ∧ plainX it = true ∧ isSrc N kd src sc it = true ∧
      ((ifs = [] ∧ isNil cond = true) ∨ ∃ t, ifs = [t] ∧ isE N cond (relS scope sc) t = true) ∧ isE N elt (relS scope sc) el = true := by
  unfold isE at h
  split at h
  · rename_i el y p it ifs scope q
    simp only [Bool.and_eq_true, decide_eq_true_eq] at h
    obtain ⟨h1, h2, h3, h4, h5, h6, h7⟩ := h
    refine ⟨el, y, p, it, ifs, scope, q, rfl, h1, h2, h3, h4, ?_, ?_, h7⟩
    · unfold isSrc
      exact h5
    · split at h6
      · exact .inl ⟨rfl, h6⟩
      · exact .inr ⟨_, rfl, h6⟩
      · cases h6
  · cases h
theorem RE.comp {K : PySem.W.Frag} {ρ : List Addr} {H : Hp} {env : Env} {σ : L2.St} {i : Nat} {y : Val} {x : V} (r : RE K ρ H env σ) (h : RV K ρ H y x) : RE K ρ H (env.set i (some y)) ((L2.wipe σ [i]).set i (some x)) := by
  have e : (L2.wipe σ [i]).set i (some x) = σ.set i (some x) := by
    show (σ.set i none).set i (some x) = _
    rw [List.set_set]
  rw [e]
  exact r.set h
theorem comp_read {X : Cx} {N : List Str} {sc : Scope} (G : Good X N sc F k) {kd : Src} {i : Nat} {src cond elt : CE} (hs : Snd F k src) (hc : Snd F k cond) (he : Snd F k elt)
    {el it tg : Expr} {ifs : List Expr} {scope : Scope} {y : Str} (hb : blkC N sc scope [(y, i)] = true) (h1 : isSrc N kd src sc it = true)
    (h2 : (ifs = [] ∧ isNil cond = true) ∨ ∃ t, ifs = [t] ∧ isE N cond (relS scope sc) t = true) (h3 : isE N elt (relS scope sc) el = true)
    {env : Env} {st : Store} {σ : L2.St} {H : Hp} {ρ : List Addr} {Q : VK} (re : RE X.K ρ H env σ) (rs : RS X.K ρ H st) (hp : PostV X.K ρ H (evalE F (.comp kd i src cond elt) env st) Q) :
    tLc (WI X tg it) (gName i) (tIfs X scope ifs) (tElt X scope el) [i] σ H Q := by
  obtain ⟨v, s1, e1, hp⟩ := PostV.bnd (r := evalE F src env st) hp
  cases e2 : srcItems kd v s1 with
  | none => rw [e2] at hp; exact hp.elim
  | some xs =>
    rw [e2] at hp
    refine src_use G hs h1 re rs e1 e2 fun J H1 ρ1 x1 g1 rs1 re1 jok => ?_
    intro D hD
    have hp1 := PostV.mono hp x1 g1
    clear hp
    generalize hf : (fun (x : Val) (s : Store) => if isNil cond = true then (evalE F elt (env.set i (some x)) s).bind fun y s3 => Res.ok (some y) s3
        else (evalE F cond (env.set i (some x)) s).bind fun t s2 => (testV t s2).bind fun b s3 => if b = true then (evalE F elt (env.set i (some x)) s3).bind fun y s4 => .ok (some y) s4 else .ok none s3) = f at hp1
    have xD : Ex ρ1 (ρ1 ++ [D]) := ⟨[D], rfl⟩
    have gD : Gr X.K H1 (upd H1 D (.lst [])) := Gr.new hD
    have iD : (ρ1 ++ [D])[s1.length]? = some D := by rw [← rs1.len, List.getElem?_append_right (Nat.le_refl _)]; simp
    have rsD : RS X.K (ρ1 ++ [D]) (upd H1 D (.lst [])) (s1 ++ [.lst []]) := rs1.alloc hD ⟨[], upd_same, .nil⟩
    have inv0 : ∃ ρ' st', Ex (ρ1 ++ [D]) ρ' ∧ Gr X.K H1 (upd H1 D (.lst [])) ∧ RS X.K ρ' (upd H1 D (.lst [])) st' ∧ PostV X.K ρ' (upd H1 D (.lst [])) (compLoop f (stays kd v xs) s1.length (xs.drop 0) st') Q :=
      ⟨ρ1 ++ [D], s1 ++ [Cell.lst []], Ex.refl, gD, rsD, PostV.mono (r := compLoop f (stays kd v xs) s1.length xs (s1 ++ [Cell.lst []])) hp1 xD gD⟩
    refine ⟨fun j m Hc => m = xs.length - j ∧ j ≤ xs.length ∧ ∃ ρ' st', Ex (ρ1 ++ [D]) ρ' ∧ Gr X.K H1 Hc ∧ RS X.K ρ' Hc st' ∧ PostV X.K ρ' Hc (compLoop f (stays kd v xs) s1.length (xs.drop j) st') Q, ⟨xs.length, by simp, Nat.zero_le _, inv0⟩, ?_⟩
    rintro j m Hc ⟨rfl, hj, ρ', st', x2, g2, rs2, hp2⟩
    have fD : ρ'[s1.length]? = some D := x2.get iD
    by_cases hlt : j < xs.length
    · obtain ⟨z, hz⟩ : ∃ z, xs[j]? = some z := ⟨_, List.getElem?_eq_getElem hlt⟩
      have hdr : xs.drop j = z :: xs.drop (j + 1) := by
        rw [List.drop_eq_getElem_cons hlt]
        rw [List.getElem?_eq_getElem hlt] at hz
        cases hz; rfl
      rw [hdr] at hp2
      unfold compLoop at hp2
      split at hp2
      · rename_i hst
        obtain ⟨j1, j2, _⟩ := jok ρ' Hc st' (xD.trans x2) g2 rs2 hst j
        refine .inr ⟨j1 hlt, fun Hc => ∃ ρ' st', Ex (ρ1 ++ [D]) ρ' ∧ Gr X.K H1 Hc ∧ RS X.K ρ' Hc st' ∧ PostV X.K ρ' Hc (compLoop f (stays kd v xs) s1.length (xs.drop (j + 1)) st') Q, fun H' nx => ⟨xs.length - (j + 1), by omega, rfl, hlt, nx⟩, fun x H' yl => ?_⟩
        obtain ⟨eH, rvx⟩ := j2 x H' z hz yl
        subst eH
        have re2 : RE X.K ρ' H' env σ := re1.mono (xD.trans x2) g2
        have re3 := RE.comp (i := i) re2 rvx
        refine ⟨?_, ?_⟩
        · show ((L2.wipe σ [i]).set i (some x)).set i none = σ.set i none
          show ((σ.set i none).set i (some x)).set i none = σ.set i none
          rw [List.set_set, List.set_set]
        · obtain ⟨o, s3, e3, hp3⟩ := PostV.bnd hp2
          -- what follows an element
          have fin : ∀ (yv : V) (y' : Val) (s4 : Store) (H4 : Hp) (ρ4 : List Addr), Ex ρ' ρ4 → Gr X.K H' H4 → RS X.K ρ4 H4 s4 → RV X.K ρ4 H4 y' yv →
              PostV X.K ρ' H' (match s4[s1.length]? with
                | some (.lst acc) => if acc.length < sizeLine then compLoop f (stays kd v xs) s1.length (xs.drop (j + 1)) (s4.set s1.length (.lst (acc ++ [y']))) else .stuck
                | _ => .stuck) Q →
              ∃ acc, H4 D = some (.lst acc) ∧ acc.length < sizeLine ∧ ∃ ρ' st', Ex (ρ1 ++ [D]) ρ' ∧ Gr X.K H1 (upd H4 D (.lst (acc ++ [yv]))) ∧ RS X.K ρ' (upd H4 D (.lst (acc ++ [yv]))) st' ∧ PostV X.K ρ' (upd H4 D (.lst (acc ++ [yv]))) (compLoop f (stays kd v xs) s1.length (xs.drop (j + 1)) st') Q := by
            intro yv y' s4 H4 ρ4 x4 g4 rs4 rv4 hq
            split at hq
            · rename_i acc ea
              split at hq
              · rename_i hl
                obtain ⟨ws, c1, c2⟩ := rs4.at_ ea (x4.get fD)
                have hg : Gr X.K H4 (upd H4 D (.lst (ws ++ [yv]))) := Gr.write c1 (fun _ z => nomatch z) (fun _ _ z => nomatch z)
                refine ⟨ws, c1, by rw [← c2.length]; exact hl, ρ4, _, x2.trans x4, g2.trans (g4.trans hg), rs4.write (c' := .lst (acc ++ [y'])) ea (x4.get fD) rfl rfl hg ⟨_, upd_same, RVs.mono Ex.refl hg _ _ (c2.append (.cons rv4 .nil))⟩, hq.mono x4 (g4.trans hg)⟩
              · exact hq.elim
            · exact hq.elim
          have e3' : f z st' = .ok o s3 := e3
          rw [← hf] at e3'
          simp only at e3'
          rcases h2 with ⟨rfl, hn⟩ | ⟨t, rfl, ht⟩
          · rw [if_pos hn] at e3'
            obtain ⟨y', s4, e4, e5⟩ := bind_eq_ok e3'
            cases e5
            intro s0 H0 C cl fp
            refine ⟨_, pts_nil, ?_⟩
            show tElt X scope el _ _ _
            intro s0 H0 C cl fp
            refine se_use (X := X.blk s0 H0 scope (compEnvC scope cl C X.env) fp) (he.e (G.blk s0 H0 C cl fp i y hb) h3) re3 rs2 e4 fun V H4 ρ4 x4 g4 rs4 re4 rv4 => ?_
            exact fin V y' s3 H4 ρ4 x4 g4 rs4 rv4 hp3
          · have hnn : ¬ isNil cond = true := by
              intro hn
              cases cond <;> first | (cases hn; done) | (cases ht; done)
            rw [if_neg hnn] at e3'
            obtain ⟨tv, s4, e4, e5⟩ := bind_eq_ok e3'
            obtain ⟨b, s5, e6, e7⟩ := bind_eq_ok e5
            obtain ⟨t1, t2⟩ := testV_eq e6
            intro s0 H0 C cl fp
            refine ⟨_, pts_one WT.pt, ?_⟩
            refine st_use (X := X.blk s0 H0 scope (compEnvC scope cl C X.env) fp) (hc.t (G.blk s0 H0 C cl fp i y hb) ht) re3 rs2 e4 t1 fun H4 ρ4 x4 g4 rs4 re4 => ?_
            rw [← t2] at rs4
            cases b with
            | false =>
              cases e7
              have hp3 : PostV X.K ρ' H' (compLoop f (stays kd v xs) s1.length (xs.drop (j + 1)) s3) Q := hp3
              show ∃ ρ' st', _
              exact ⟨ρ4, s3, x2.trans x4, g2.trans g4, rs4, hp3.mono x4 g4⟩
            | true =>
              obtain ⟨y', s6, e8, e9⟩ := bind_eq_ok e7
              cases e9
              show tElt X scope el _ _ _
              intro s0 H0 C cl fp
              refine se_use (X := X.blk s0 H0 scope (compEnvC scope cl C X.env) fp) (he.e (G.blk s0 H0 C cl fp i y hb) h3) re4 rs4 e8 fun V H5 ρ5 x5 g5 rs5 re5 rv5 => ?_
              exact fin V y' s3 H5 ρ5 (x4.trans x5) (g4.trans g5) rs5 rv5 hp3
      · exact hp2.elim
    · have ej : j = xs.length := by omega
      subst ej
      rw [List.drop_length] at hp2
      unfold compLoop at hp2
      split at hp2
      · rename_i hst
        obtain ⟨_, _, j3⟩ := jok ρ' Hc st' (xD.trans x2) g2 rs2 hst xs.length
        exact .inl ⟨j3 (Nat.le_refl _), PostV.here hp2 rs2 (.ref fD)⟩
      · exact hp2.elim
theorem s_comp {kd : Src} {i : Nat} {src cond elt : CE} (hs : Snd F k src) (hc : Snd F k cond) (he : Snd F k elt) : Snd F k (.comp kd i src cond elt) := by
  refine snd_val (fun {X N sc} G {x} h => ?_) (fun N sc x env h => by obtain ⟨_, _, _, _, _, _, _, rfl, _⟩ := isE_comp h; intro _; rfl) rfl (fun _ _ _ => rfl) (fun _ _ _ _ => rfl)
  obtain ⟨el, y, p, it, ifs, scope, q, rfl, h1, h2, h3, h4, h5, h6, h7⟩ := isE_comp h
  intro env st σ H ρ Q re rs hp
  refine of_pe (pe_lc (own := [(y, i)]) (g := gName i) (tt := tIfs X scope ifs) (te := tElt X scope el) G.calm (by rw [G.hN]; exact G.nd) WI.pi (blkOk_by (by rw [G.hN, G.hsc]; exact h1)) (fun s H0 C cl fp => ?_) (fun s H0 C cl fp => ?_) (fun s H0 C cl fp => ?_) (plain_fold h4)) (comp_read G hs hc he h1 h5 h6 h7 re rs hp)
  · have G2 := G.blk s H0 C cl fp i y h1
    exact pg_name (by rw [G2.hN]; exact G2.nd) (by rw [G2.hN]; exact h2) (.inl (by rw [G2.hsc]; exact h3)) (.inr (by rw [G2.hsc]; exact h3))
  · exact ⟨fun pins s' σ' H' Q' I h => WTs.pts.run pins s' σ' H' Q' I (h s H0 C cl fp)⟩
  · exact ⟨fun pins s' σ' H' Q' I h => (h s H0 C cl fp) pins s' I⟩
/-- ALL EXPRESSIONS -/
theorem snd_all : ∀ c : CE, Snd F k c := by
  intro c
  induction c with
  | var i => exact s_var i
  | none_ => exact s_none
  | bool_ b => exact s_bool b
  | int_ i => exact s_int i
  | str_ s => exact s_str s
  | glob x => exact s_glob x
  | nil => exact s_nil
  | cons a r ha hr => exact s_cons ha hr
  | tup a ha => exact s_tup ha
  | lst a ha => exact s_lst ha
  | bin op a b ha hb => exact s_bin ha hb
  | neg a ha => exact s_neg ha
  | cmp op a b ha hb => exact s_cmp ha hb
  | chain op op' a b c ha hb hc => exact s_chain ha hb hc
  | and1 a ha => exact s_and1 ha
  | and2 a r ha hr => exact s_and2 ha hr
  | or1 a ha => exact s_or1 ha
  | or2 a r ha hr => exact s_or2 ha hr
  | not_ a ha => exact s_not ha
  | ifx c a b hc ha hb => exact s_ifx hc ha hb
  | ix a i ha hi => exact s_ix ha hi
  | slice a lo hi ha hl hh => exact s_slice ha hl hh
  | rev a ha => exact s_rev ha
  | call f a ha => exact s_call ha
  | bi b a ha => exact s_bi ha
  | isi t a ha => exact s_isi ha
  | isx c a ha => exact s_isx ha
  | fld f a ha => exact s_fld ha
  | meth m o a ho ha => exact s_meth ho ha
  | comp kd i s c e hs hc he => exact s_comp hs hc he
  | kv a b r ha hb hr => exact s_kv ha hb hr
  | dict p hp => exact s_dict hp
end
end Ev

set_option Elab.async false
set_option linter.all false
set_option maxRecDepth 100000
set_option maxHeartbeats 4000000
/-! ## Statements -/
namespace Ev
open PySem PySem.Spec PyProof.Rows L2

/-! ### what never raises; what raises -/
def NX {α : Type} (r : Res α) : Prop := ∀ c v s, r ≠ .exc c v s
theorem nx_ok {α : Type} {a : α} {s : Store} : NX (.ok a s) := fun _ _ _ h => nomatch h
theorem nx_stuck {α : Type} : NX (.stuck : Res α) := fun _ _ _ h => nomatch h
theorem nx_need {α : Type} {p : Prop} [Decidable p] {r : Res α} (h : NX r) : NX (Ev.need p r) := by
  unfold Ev.need
  split
  · exact h
  · exact nx_stuck
theorem nx_bind {α β : Type} {r : Res α} {f : α → Store → Res β} (h : ∀ a s, NX (f a s)) : NX (r.bind f) := fun c v s e => by
  obtain ⟨a, s1, _, e2⟩ := bind_eq_exc e
  exact h a s1 c v s e2
theorem nx_binop {op : Bop} {a b : Val} {st : Store} : NX (binop op a b st) := by unfold binop; ((repeat' split) <;> first | exact nx_ok | exact nx_stuck | exact nx_need nx_ok | exact nx_need nx_stuck)
theorem nx_optB {o : Option Bool} {n : Bool} {st : Store} : NX (optB o n st) := by unfold optB; ((repeat' split) <;> first | exact nx_ok | exact nx_stuck | exact nx_need nx_ok | exact nx_need nx_stuck)
theorem nx_cmpop {op : Cop} {a b : Val} {st : Store} : NX (cmpop op a b st) := by
  unfold cmpop
  split <;> first | exact nx_optB | ((repeat' split) <;> first | exact nx_ok | exact nx_stuck | exact nx_need nx_ok | exact nx_need nx_stuck)
theorem nx_ixop {a b : Val} {st : Store} : NX (ixop a b st) := by unfold ixop; ((repeat' split) <;> first | exact nx_ok | exact nx_stuck | exact nx_need nx_ok | exact nx_need nx_stuck)
theorem nx_part {a : Val} {st : Store} : NX (part a st) := by unfold part; ((repeat' split) <;> first | exact nx_ok | exact nx_stuck | exact nx_need nx_ok | exact nx_need nx_stuck)
theorem nx_sliceop {a : Val} {l h : Option Int} {st : Store} : NX (sliceop a l h st) := by unfold sliceop; ((repeat' split) <;> first | exact nx_ok | exact nx_stuck | exact nx_need nx_ok | exact nx_need nx_stuck)
theorem nx_revop {a : Val} {st : Store} : NX (revop a st) := by unfold revop; ((repeat' split) <;> first | exact nx_ok | exact nx_stuck | exact nx_need nx_ok | exact nx_need nx_stuck)
theorem nx_bifn {b : Bi} {vs : List Val} {st : Store} : NX (bifn b vs st) := by unfold bifn; ((repeat' split) <;> first | exact nx_ok | exact nx_stuck | exact nx_need nx_ok | exact nx_need nx_stuck)
theorem nx_metop {m : Mt} {o : Val} {vs : List Val} {st : Store} : NX (metop m o vs st) := by unfold metop; ((repeat' split) <;> first | exact nx_ok | exact nx_stuck | exact nx_need nx_ok | exact nx_need nx_stuck)
theorem nx_testV {v : Val} {st : Store} : NX (testV v st) := by unfold testV; ((repeat' split) <;> first | exact nx_ok | exact nx_stuck | exact nx_need nx_ok | exact nx_need nx_stuck)
theorem nx_while {c : Env → Store → Res Bool} {b : Env → Store → Res (Flow × Env)} : ∀ (n : Nat) (env : Env) (st : Store), NX (whileLoop c b n env st)
  | 0, env, st => nx_stuck
  | n + 1, env, st => by
    unfold whileLoop
    refine nx_bind fun t s1 => ?_
    split
    · refine nx_bind fun p s2 => ?_
      split
      · exact nx_while n _ _
      · exact nx_while n _ _
      · exact nx_ok
      · exact nx_ok
    · exact nx_ok
theorem nx_comp {f : Val → Store → Res (Option Val)} {ok : Store → Prop} {D : Nat} : ∀ (xs : List Val) (st : Store), NX (compLoop f ok D xs st)
  | [], st => by unfold compLoop; ((repeat' split) <;> first | exact nx_ok | exact nx_stuck | exact nx_need nx_ok | exact nx_need nx_stuck)
  | x :: xs, st => by
    unfold compLoop
    split
    · refine nx_bind fun o s1 => ?_
      split
      · exact nx_comp xs s1
      · split
        · split
          · exact nx_comp xs _
          · exact nx_stuck
        · exact nx_stuck
    · exact nx_stuck
section
variable {F : Fns} {k : Nat}
def plainR : CE → Bool
  | .and1 _ => false
  | .and2 _ _ => false
  | .or1 _ => false
  | .or2 _ _ => false
  | .cons _ _ => false
  | .call _ _ => false
  | .ifx _ _ _ => false
  | _ => true
theorem nx_E (c : CE) (h : plainR c = true) (env : Env) (st : Store) : NX (evalE F c env st) := by
  cases c with
  | and1 _ => cases h
  | and2 _ _ => cases h
  | or1 _ => cases h
  | or2 _ _ => cases h
  | cons _ _ => cases h
  | call _ _ => cases h
  | ifx _ _ _ => cases h
  | var i => simp only [evalE]; ((repeat' split) <;> first | exact nx_ok | exact nx_stuck | exact nx_need nx_ok | exact nx_need nx_stuck)
  | none_ => exact nx_ok
  | bool_ b => exact nx_ok
  | int_ i => exact nx_ok
  | str_ s => exact nx_ok
  | glob x => simp only [evalE]; ((repeat' split) <;> first | exact nx_ok | exact nx_stuck | exact nx_need nx_ok | exact nx_need nx_stuck)
  | nil => exact nx_ok
  | tup a => simp only [evalE]; exact nx_bind fun _ _ => by ((repeat' split) <;> first | exact nx_ok | exact nx_stuck | exact nx_need nx_ok | exact nx_need nx_stuck)
  | lst a => simp only [evalE]; exact nx_bind fun _ _ => by ((repeat' split) <;> first | exact nx_ok | exact nx_stuck | exact nx_need nx_ok | exact nx_need nx_stuck)
  | bin op a b => simp only [evalE]; exact nx_bind fun _ _ => nx_bind fun _ _ => nx_binop
  | neg a => simp only [evalE]; exact nx_bind fun _ _ => by ((repeat' split) <;> first | exact nx_ok | exact nx_stuck | exact nx_need nx_ok | exact nx_need nx_stuck)
  | cmp op a b => simp only [evalE]; exact nx_bind fun _ _ => nx_bind fun _ _ => nx_cmpop
  | chain op op' a b c =>
    simp only [evalE]
    refine nx_bind fun _ _ => nx_bind fun _ _ => nx_bind fun _ _ => ?_
    split
    · split
      · exact nx_bind fun _ _ => nx_cmpop
      · exact nx_ok
    · exact nx_stuck
  | not_ a => simp only [evalE]; exact nx_bind fun _ _ => nx_bind fun _ _ => nx_ok
  | ix a i => simp only [evalE]; exact nx_bind fun _ _ => nx_bind fun _ _ => nx_ixop
  | slice a lo hi => simp only [evalE]; exact nx_bind fun _ _ => nx_bind fun _ _ => nx_bind fun _ _ => nx_sliceop
  | rev a => simp only [evalE]; exact nx_bind fun _ _ => nx_revop
  | bi b a =>
    simp only [evalE]
    refine nx_bind fun _ _ => ?_
    split
    · exact nx_bifn
    · exact nx_stuck
  | isi t a => simp only [evalE]; exact nx_bind fun _ _ => by ((repeat' split) <;> first | exact nx_ok | exact nx_stuck | exact nx_need nx_ok | exact nx_need nx_stuck)
  | meth m o a =>
    simp only [evalE]
    refine nx_bind fun _ _ => nx_need (nx_bind fun _ _ => ?_)
    split
    · exact nx_metop
    · exact nx_stuck
  | comp kd i src cond elt =>
    simp only [evalE]
    refine nx_bind fun _ _ => ?_
    split
    · exact nx_comp _ _
    · exact nx_stuck
  | kv k v r => simp only [evalE]; exact nx_bind fun _ _ => nx_bind fun _ _ => nx_bind fun _ _ => by ((repeat' split) <;> first | exact nx_ok | exact nx_stuck | exact nx_need nx_ok | exact nx_need nx_stuck)
  | dict ps =>
    simp only [evalE]
    refine nx_bind fun _ _ => ?_
    ((repeat' split) <;> first | exact nx_ok | exact nx_stuck | exact nx_need nx_ok | exact nx_need nx_stuck)
  | isx c a =>
    simp only [evalE]
    split
    · exact nx_bind fun _ _ => by ((repeat' split) <;> first | exact nx_ok | exact nx_stuck | exact nx_need nx_ok | exact nx_need nx_stuck)
    · exact nx_stuck
  | fld f a =>
    simp only [evalE]
    split
    · exact nx_bind fun _ _ => by ((repeat' split) <;> first | exact nx_ok | exact nx_stuck | exact nx_need nx_ok | exact nx_need nx_stuck)
    · exact nx_stuck
theorem PostX.exc {α : Type} {K : PySem.W.Frag} {ρ : List Addr} {H : Hp} {r : Res α} {E : XK} (h : PostX K ρ H r E) : ∃ c v s, r = .exc c v s := by
  cases r with
  | exc c v s => exact ⟨c, v, s, rfl⟩
  | _ => exact h.elim
theorem PostX.nx {α : Type} {K : PySem.W.Frag} {ρ : List Addr} {H : Hp} {r : Res α} {E : XK} (h : PostX K ρ H r E) (n : NX r) : False := by
  obtain ⟨c, v, s, e⟩ := h.exc
  exact n c v s e
theorem PostX.bndX {α β : Type} {K : PySem.W.Frag} {ρ : List Addr} {H : Hp} {r : Res α} {f : α → Store → Res β} {E : XK} (h : PostX K ρ H (r.bindX f) E) : PostX K ρ H r E ∨ ∃ a s1, r = .ok a s1 ∧ PostX K ρ H (f a s1) E := by
  cases r with
  | ok a s1 => exact .inr ⟨a, s1, rfl, h⟩
  | exc c v s => exact .inl h
  | stuck => exact h.elim
theorem PostX.bnd {α β : Type} {K : PySem.W.Frag} {ρ : List Addr} {H : Hp} {r : Res α} {f : α → Store → Res β} {E : XK} (h : PostX K ρ H (r.bind f) E) : ∃ a s1, r = .ok a s1 ∧ PostX K ρ H (f a s1) E := by
  cases r with
  | ok a s1 => exact ⟨a, s1, rfl, h⟩
  | exc c v s => exact h.elim
  | stuck => exact h.elim
theorem we_nox {X : Cx} {x : Expr} {σ : L2.St} {H : Hp} {Q : VK} (h : WE X.nox x σ H Q) : WE X x σ H Q := of_pe (PE.nox WE.pe) h
theorem wt_nox {X : Cx} {x : Expr} {σ : L2.St} {H : Hp} {Q : Bool → Hp → Prop} (h : WT X.nox x σ H Q) : WT X x σ H Q := of_pt (PT.nox WT.pt) h
theorem wss_nox {X : Cx} {x : List Stmt} {σ : L2.St} {H : Hp} {D : Ends} (h : WSs X.nox x D σ H) : WSs X x D σ H := of_pss (PSs.nox WSs.pss) h
theorem wst_nox {X : Cx} {x : Stmt} {σ : L2.St} {H : Hp} {D : Ends} (h : WSt X.nox x D σ H) : WSt X x D σ H := fun pins s I =>
  wpAny_mono (h pins s (I.wish _)) (fun _ _ q => q.unwish) fun _ _ z => False.elim z
theorem wa_nox {X : Cx} {x : List Expr} {σ : L2.St} {H : Hp} {Q : List V → Hp → Prop} (h : WA X.nox x σ H Q) : WA X x σ H Q := fun pos pins s I =>
  wpAny_mono (h pos pins s (I.wish _)) (fun _ _ ⟨v, H', I', r, q⟩ => ⟨v, H', I'.unwish, r, q⟩) fun _ _ z => False.elim z
/-- an expression that raises -/
def RxE (X : Cx) (W : WX) (F : Fns) (c : CE) (x : Expr) : Prop := ∀ (env : Env) (st : Store) (σ : L2.St) (H : Hp) (ρ : List Addr) (Q : VK), RE X.K ρ H env σ → RS X.K ρ H st → PostX X.K ρ H (evalE F c env st) (fun cls d H' => W cls d σ H') → WE X x σ H Q
def RxA (X : Cx) (W : WX) (F : Fns) (c : CE) (x : List Expr) : Prop := ∀ (env : Env) (st : Store) (σ : L2.St) (H : Hp) (ρ : List Addr) (Q : List V → Hp → Prop), RE X.K ρ H env σ → RS X.K ρ H st → PostX X.K ρ H (evalE F c env st) (fun cls d H' => W cls d σ H') → WA X x σ H Q
theorem rx_all : ∀ (c : CE), canR c = true → ∀ {X : Cx} {N : List Str} {sc : Scope} {W : WX} (G : Good X N sc F k) (tk : Takes X W), (∀ {x : Expr}, isE N c sc x = true → RxE X W F c x) ∧ (∀ {x : List Expr}, isEs N c sc x = true → RxA X W F c x) := by
  intro c
  induction c with
  | and1 _ _ => intro z; cases z
  | and2 _ _ _ _ => intro z; cases z
  | or1 _ _ => intro z; cases z
  | or2 _ _ _ _ => intro z; cases z
  | cons a r iha ihr =>
    intro hc X N sc W G tk
    have hc : (canR a && canR r) = true := hc
    simp only [Bool.and_eq_true] at hc
    refine ⟨fun {x} h => (by cases x <;> cases h), fun {es} h => ?_⟩
    intro env st σ H ρ Q re rs hp
    cases es with
    | nil => cases h
    | cons x es =>
      have h : (plainX x && (isE N a sc x && isEs N r sc es)) = true := h
      simp only [Bool.and_eq_true] at h
      refine of_pa (pa_cons WE.pe WA.pa (plain_star h.1)) ?_
      rcases PostX.bndX (r := evalE F a env st) hp with hp | ⟨v, s1, e1, hp⟩
      · exact (iha hc.1 G tk).1 h.2.1 env st σ H ρ _ re rs hp
      · refine id (se_use (X := X) ((snd_all a).e G h.2.1) re rs e1 fun V H1 ρ1 x1 g1 rs1 re1 rv1 => ?_)
        rcases PostX.bndX (r := evalE F r env s1) hp with hp | ⟨w, s2, e2, hp⟩
        · exact (ihr hc.2 G tk).2 h.2.2 env s1 σ H1 ρ1 _ re1 rs1 (hp.mono x1 g1)
        · cases w <;> exact hp.elim
  | call f args ih =>
    intro hc X N sc W G tk
    have hc' : (canR args && !isNil args) = true := hc
    simp only [Bool.and_eq_true, Bool.not_eq_true'] at hc'
    clear hc
    refine ⟨fun {x} h => ?_, fun {es} h => (by cases es <;> cases h)⟩
    unfold isE at h
    split at h
    · rename_i y p es q
      simp only [Bool.and_eq_true, decide_eq_true_eq] at h
      obtain ⟨h1, h2, h3, h4⟩ := h
      subst h1
      intro env st σ H ρ Q re rs hp
      have hp : PostX X.K ρ H (callX F y (evalE F args env st)) (fun cls d H' => W cls d σ H') := hp
      have pl := isEs_plain h4
      cases es with
      | nil =>
        exfalso
        cases args with
        | nil => cases hc'.2
        | cons _ _ => cases h4
        | _ => exact absurd h4 (by simp [isEs])
      | cons z es =>
        rw [List.all_cons, Bool.and_eq_true] at pl
        have alive : (∃ args st, F.fn y args st ≠ .stuck) ∨ F.has y = true := by
          cases e : evalE F args env st with
          | ok w s1 =>
            rw [e] at hp
            cases w with
            | tup xs => exact .inl ⟨xs, s1, fun z => by rw [callX_ok, z] at hp; exact hp.elim⟩
            | _ => exact hp.elim
          | exc c v s1 =>
            rw [e] at hp
            unfold callX at hp
            simp only at hp
            split at hp
            · exact .inr (by assumption)
            · exact hp.elim
          | stuck => rw [e] at hp; exact hp.elim
        obtain ⟨a, fd, ps, m1, m2, m3, m4⟩ := G.fns y alive
        refine of_pe (pe_callS (E := L2.WE W) m4 G.room (G.glo h2) m1 m2 m3 (fun σ => passAt tk σ) WA.pa (okNm1 h3) (plain_star pl.1) (plain_any pl.2)) ?_
        cases e1 : evalE F args env st with
        | ok w s1 =>
          rw [e1] at hp
          cases w with
          | tup xs =>
            have hp : PostX X.K ρ H (F.fn y xs s1) (fun cls d H' => W cls d σ H') := hp
            refine id (sa_use (X := X) ((snd_all args).a G h4) re rs e1 fun vs H1 ρ1 x1 g1 rs1 re1 rv1 => ?_)
            exact ⟨xs, s1, ρ1, rv1, rs1, .inr (hp.mono x1 g1)⟩
          | _ => exact hp.elim
        | exc c v s1 =>
          rw [e1] at hp
          unfold callX at hp
          simp only at hp
          split at hp
          case isFalse => exact hp.elim
          refine (ih hc'.1 G tk).2 h4 env st σ H ρ _ re rs ?_
          rw [e1]
          exact hp
        | stuck => rw [e1] at hp; exact hp.elim
    · cases h
  | ifx c a b ihc iha ihb =>
    intro hc X N sc W G tk
    have hc : (canR a && canR b) = true := hc
    simp only [Bool.and_eq_true] at hc
    refine ⟨fun {x} h => ?_, fun {es} h => (by cases es <;> cases h)⟩
    unfold isE at h
    split at h
    · rename_i z y w p
      simp only [Bool.and_eq_true] at h
      intro env st σ H ρ Q re rs hp
      obtain ⟨v, s1, e1, hp⟩ := PostX.bnd (r := evalE F c env st) hp
      obtain ⟨t, s2, e2, hp⟩ := PostX.bnd (r := testV v s1) hp
      obtain ⟨e3, rfl⟩ := testV_eq e2
      refine of_pe (pe_ifExp WT.pt WE.pe WE.pe) (id (st_use (X := X) ((snd_all c).t G h.1) re rs e1 e3 fun H1 ρ1 x1 g1 rs1 re1 => ?_))
      cases t with
      | true => exact (iha hc.1 G tk).1 h.2.1 env _ σ H1 ρ1 Q re1 rs1 (PostX.mono hp x1 g1)
      | false => exact (ihb hc.2 G tk).1 h.2.2 env _ σ H1 ρ1 Q re1 rs1 (PostX.mono hp x1 g1)
    · cases h
  | _ =>
    intro hc X N sc W G tk
    exact ⟨fun {x} h env st σ H ρ Q re rs hp => (hp.nx (nx_E _ rfl env st)).elim, fun {x} h env st σ H ρ Q re rs hp => (hp.nx (nx_E _ rfl env st)).elim⟩
end
/-- no comprehension -/
def noLC : Expr → Bool
  | .ListComp _ _ _ _ => false
  | .SetComp _ _ _ _ => false
  | .DictComp _ _ _ _ _ => false
  | _ => true
/-- .. and no tuple display -/
def noTL : Expr → Bool
  | .Tuple _ _ _ => false
  | e => noLC e
/-- a list of names as targets -/
def isNames (N : List Str) (sc : Scope) : List Nat → List Expr → Bool
  | [], ts => ts.isEmpty
  | i :: is, ts => (match ts with | .Name y _ :: ts => decide (N[i]? = some y) && (locB sc y && isNames N sc is ts) | _ => false)
/-- a for's target -/
def isTgt (N : List Str) (sc : Scope) (is : List Nat) (tg : Expr) : Bool :=
  match tg with
  | .Name y _ => (match is with | [i] => decide (N[i]? = some y) && locB sc y | _ => false)
  | .Tuple ts _ _ => decide (2 ≤ is.length) && isNames N sc is ts
  | _ => false
mutual
def isS (N : List Str) (sc : Scope) : CS → Stmt → Bool
  | .skip, _ => false
  | .seq _ _, _ => false
  | .expr e, st => (match st with | .Expr x _ => noLC x && isE N e sc x | _ => false)
  | .ret e, st => (match st with | .Return (some x) _ => isE N e sc x | _ => false)
  | .retN, st => (match st with | .Return none _ => true | _ => false)
  | .pass, st => (match st with | .Pass _ => true | _ => false)
  | .brk, st => (match st with | .Break _ => true | _ => false)
  | .cont, st => (match st with | .Continue _ => true | _ => false)
  | .set i e, st => (match st with | .Assign [.Name y _] x _ => decide (N[i]? = some y) && (locB sc y && isE N e sc x) | _ => false)
  | .tset is e, st => (match st with | .Assign [.Tuple ts _ _] x _ => noTL x && (isNames N sc is ts && isE N e sc x) | _ => false)
  | .tpar i j e, st => (match st with
    | .Assign [.Tuple [.Name x p, .Name y q] _ _] (.Tuple [u, v] _ _) _ => decide (N[i]? = some x) && (decide (N[j]? = some y) && (decide (i ≠ j) && (decide (x ≠ y) && (decide (sc.names.lookup x = some .local) && (decide (sc.names.lookup y = some .local) && ((q.line == p.line) && (!([u, v].all (foldedForSure 8)) && (!([u, v].all (constantsAlone 8)) && isEs N e sc [u, v]))))))))
    | _ => false)
  | .sub o i e, st => (match st with | .Assign [.Subscript y z _] x _ => noLC x && (plainX z && (isE N o sc y && (isE N i sc z && isE N e sc x))) | _ => false)
  | .if_ c a b, st => (match st with | .If x as bs _ => isE N c sc x && (isSs N sc a as && isSs N sc b bs) | _ => false)
  | .while_ c a, st => (match st with | .While x as [] _ => isE N c sc x && isSs N sc a as | _ => false)
  | .for_ k is src a, st => (match st with | .For tg it as [] _ => isTgt N sc is tg && (plainX it && (isSrc N k src sc it && isSs N sc a as)) | _ => false)
  | .never, _ => true
  | .raise0 c, st => (match st with | .Raise (some (.Call (.Name x _) [.Constant (.str _) _ _] [] _)) none _ => decide (x = c) && glB sc x | _ => false)
  | .raise1 c e, st => (match st with | .Raise (some (.Call (.Name x _) [y] [] _)) none _ => decide (x = c) && (decide (x = "Over") && (glB sc x && (plainX y && isE N e sc y))) | _ => false)
  | .tryc i e x n j, st => (match st with
    | .Try [.Assign [.Name y _] ex _] [.ExceptHandler (some (.Name x' _)) (some n') [.Assign [.Name m _] (.Name n2 _) _] _] [] [] _ =>
      decide (x' = "ScoreError") && (glB sc x' && (decide (N[i]? = some y) && (locB sc y && (noLC ex && (isE N e sc ex && (canR e && (decide (N[n]? = some n') && (decide (sc.names.lookup n' = some .local) && (decide (N[j]? = some m) && (decide (sc.names.lookup m = some .local) && (okNm n' && decide (n2 = n'))))))))))))
    | _ => false)
def isSs (N : List Str) (sc : Scope) : CS → List Stmt → Bool
  | .skip, sts => sts.isEmpty
  | .seq s r, sts => (match sts with | st :: sts => isS N sc s st && isSs N sc r sts | [] => false)
  | .never, _ => true
  | _, _ => false
end

structure GoodS (X : Cx) (N : List Str) (sc : Scope) (F : Fns) (k : Nat) : Prop extends Good X N sc F k where
  fn1 : X.fn = fun _ => true
  kind : sc.kind = .function
  stk : X.stack = X.env :: X.outer
  frm : X.env.frame = some X.env.locals
  ex0 : X.ex = []
def SSt (X : Cx) (F : Fns) (c : CS) (st : Stmt) : Prop := ∀ (env : Env) (s : Store) (σ : L2.St) (H : Hp) (ρ : List Addr) (D : Ends), RE X.K ρ H env σ → RS X.K ρ H s → PostF X.K ρ H (evalS F c env s) D → WSt X st D σ H
def SSs (X : Cx) (F : Fns) (c : CS) (sts : List Stmt) : Prop := ∀ (env : Env) (s : Store) (σ : L2.St) (H : Hp) (ρ : List Addr) (D : Ends), RE X.K ρ H env σ → RS X.K ρ H s → PostF X.K ρ H (evalS F c env s) D → WSs X sts D σ H
structure SndS (F : Fns) (k : Nat) (c : CS) : Prop where
  s : ∀ {X : Cx} {N : List Str} {sc : Scope} (G : GoodS X N sc F k) {st : Stmt}, isS N sc c st = true → SSt X F c st
  ss : ∀ {X : Cx} {N : List Str} {sc : Scope} (G : GoodS X N sc F k) {sts : List Stmt}, isSs N sc c sts = true → SSs X F c sts
section
variable {X : Cx} {N : List Str} {sc : Scope} {F : Fns} {k : Nat}
theorem noLC_swap {x : Expr} {t : Option Expr} {l : Nat} {env : PySem.Env} (h : noLC x = true) : swapsWith x t l env = pure false := by
  cases x <;> first | rfl | cases h
theorem noTL_lc {x : Expr} (h : noTL x = true) : noLC x = true := by
  cases x <;> first | rfl | cases h
theorem noTL_stores {x : Expr} {ts : List Expr} {j : Nat} {p : Pos} {env : PySem.Env} (h : noTL x = true) : swappedStores [.Tuple ts j p] x env = pure none := by
  cases x <;> first | rfl | cases h
theorem GoodS.hf (G : GoodS X N sc F k) (y : Str) : X.fn y = true ∨ X.env.scope.names.lookup y = some .local := .inl (by rw [G.fn1])
theorem PostF.here {K : PySem.W.Frag} {ρ : List Addr} {H : Hp} {env : Env} {st : Store} {D : Ends} {σ : L2.St} (h : PostF K ρ H (.ok (.next, env) st) D) (rs : RS K ρ H st) (re : RE K ρ H env σ) : D.nx σ H := h σ H ρ Ex.refl Gr.refl rs re
/-- several names are set -/
theorem names_set (G : GoodS X N sc F k) : ∀ {is : List Nat} {ts : List Expr}, isNames N sc is ts = true → ∃ g : TGs, PGs X ts g ∧ (assignEach ts X.env).length = is.length ∧ (assignEach ts X.env).findIdx? (·.1) = none ∧
    ∀ (xs : List Val) (vs : List V) (env env1 : Env) (σ : L2.St) (H : Hp) (ρ : List Addr) (Q : L2.St → Hp → Prop), setAll is xs env = some env1 → RVs X.K ρ H xs vs → RE X.K ρ H env σ → (∀ σ', RE X.K ρ H env1 σ' → Q σ' H) → g vs σ H Q
  | [], ts, h => by
    cases ts with
    | cons _ _ => cases h
    | nil =>
      refine ⟨_, pgs_nil, rfl, rfl, fun xs vs env env1 σ H ρ Q e rv re hq => ?_⟩
      cases xs with
      | cons _ _ => cases e
      | nil =>
        cases rv
        cases e
        exact ⟨rfl, hq σ re⟩
  | i :: is, ts, h => by
    unfold isNames at h
    split at h
    · rename_i y p ts
      simp only [Bool.and_eq_true, decide_eq_true_eq] at h
      obtain ⟨h1, h2, h3⟩ := h
      obtain ⟨g, g1, g2, g3, g4⟩ := names_set G h3
      have pn : PG X (.Name y p) (gName i) := pg_name (by rw [G.hN]; exact G.nd) (by rw [G.hN]; exact h1) (G.loc h2) (G.hf y)
      refine ⟨_, pgs_cons pn g1, ?_, ?_, fun xs vs env env1 σ H ρ Q e rv re hq => ?_⟩
      · show (assignEach ts X.env).length + 1 = _
        rw [g2]; rfl
      · show (((false, _) :: assignEach ts X.env).findIdx? (·.1)) = none
        rw [List.findIdx?_cons]
        simp only [Bool.false_eq_true, if_false, g3]
        rfl
      · cases xs with
        | nil => cases e
        | cons x xs =>
          cases rv with
          | cons r1 r2 =>
            refine ⟨_, _, rfl, ?_⟩
            exact g4 xs _ (env.set i (some x)) env1 _ H ρ Q e r2 (re.set r1) hq
    · cases h
theorem ss_of {c : CS} (h : ∀ {X : Cx} {N : List Str} {sc : Scope} (G : GoodS X N sc F k) {st : Stmt}, isS N sc c st = true → SSt X F c st) (h2 : ∀ N sc sts, isSs N sc c sts = false) : SndS F k c := ⟨h, fun {_ _ _} G {_} e => by rw [h2] at e; cases e⟩

theorem t_skip : SndS F k .skip := ⟨fun {_ _ _} G {_} h => (by cases h), fun {X N sc} G {sts} h => by
  intro env s σ H ρ D re rs hp
  cases sts with
  | nil => exact of_pss pss_nil (PostF.here hp rs re)
  | cons _ _ => cases h⟩
theorem t_seq {a r : CS} (ha : SndS F k a) (hr : SndS F k r) : SndS F k (.seq a r) := ⟨fun {_ _ _} G {_} h => (by cases h), fun {X N sc} G {sts} h => by
  intro env s σ H ρ D re rs hp
  cases sts with
  | nil => cases h
  | cons st sts =>
    have h : (isS N sc a st && isSs N sc r sts) = true := h
    simp only [Bool.and_eq_true] at h
    refine of_pss (pss_cons WSt.ps WSs.pss) ?_
    refine ha.s G h.1 env s σ H ρ _ re rs ?_
    obtain ⟨p, s1, e1, hp⟩ := PostF.bndX (r := evalS F a env s) hp
    rw [e1]
    obtain ⟨f, env1⟩ := p
    intro σ' H' ρ' x1 g1 rs1 re1
    cases f with
    | next => exact hr.ss G h.2 env1 s1 σ' H' ρ' D re1 rs1 (PostF.mono hp x1 g1)
    | brk => exact hp σ' H' ρ' x1 g1 rs1 re1
    | cont => exact hp σ' H' ρ' x1 g1 rs1 re1
    | ret v => exact hp σ' H' ρ' x1 g1 rs1 re1⟩
theorem t_never : SndS F k .never := ⟨fun {_ _ _} G {_} h => fun env s σ H ρ D re rs hp => hp.elim, fun {_ _ _} G {_} h => fun env s σ H ρ D re rs hp => hp.elim⟩
theorem t_expr (e : CE) : SndS F k (.expr e) := by
  refine ss_of (fun {X N sc} G {st} h => ?_) (fun _ _ _ => rfl)
  intro env s σ H ρ D re rs hp
  cases st with
  | Expr x p =>
    have h : (noLC x && isE N e sc x) = true := h
    simp only [Bool.and_eq_true] at h
    obtain ⟨v, s1, e1, hp⟩ := PostF.bndX (r := evalE F e env s) hp
    refine of_ps (ps_expr WE.pe (noLC_swap h.1)) (se_use ((snd_all e).e G.toGood h.2) re rs e1 fun V H1 ρ1 x1 g1 rs1 re1 rv1 => ?_)
    exact PostF.here (PostF.mono hp x1 g1) rs1 re1
  | _ => cases h
theorem t_ret (e : CE) : SndS F k (.ret e) := by
  refine ss_of (fun {X N sc} G {st} h => ?_) (fun _ _ _ => rfl)
  intro env s σ H ρ D re rs hp
  cases st with
  | Return x p =>
    cases x with
    | none => cases h
    | some x =>
      have h : isE N e sc x = true := h
      obtain ⟨v, s1, e1, hp⟩ := PostF.bndX (r := evalE F e env s) hp
      refine of_ps (ps_ret WE.pe) (se_use ((snd_all e).e G.toGood h) re rs e1 fun V H1 ρ1 x1 g1 rs1 re1 rv1 => ?_)
      exact hp σ H1 ρ1 x1 g1 rs1 re1 V rv1
  | _ => cases h
theorem t_retN : SndS F k .retN := by
  refine ss_of (fun {X N sc} G {st} h => ?_) (fun _ _ _ => rfl)
  intro env s σ H ρ D re rs hp
  cases st with
  | Return x p =>
    cases x with
    | none => exact of_ps ps_retN (hp σ H ρ Ex.refl Gr.refl rs re .non .none)
    | some x => cases h
  | _ => cases h
theorem t_pass : SndS F k .pass := by
  refine ss_of (fun {X N sc} G {st} h => ?_) (fun _ _ _ => rfl)
  intro env s σ H ρ D re rs hp
  cases st with
  | Pass p => exact of_ps ps_pass (PostF.here hp rs re)
  | _ => cases h
theorem t_brk : SndS F k .brk := by
  refine ss_of (fun {X N sc} G {st} h => ?_) (fun _ _ _ => rfl)
  intro env s σ H ρ D re rs hp
  cases st with
  | Break p => exact of_ps ps_break (hp σ H ρ Ex.refl Gr.refl rs re)
  | _ => cases h
theorem t_cont : SndS F k .cont := by
  refine ss_of (fun {X N sc} G {st} h => ?_) (fun _ _ _ => rfl)
  intro env s σ H ρ D re rs hp
  cases st with
  | Continue p => exact of_ps ps_continue (hp σ H ρ Ex.refl Gr.refl rs re)
  | _ => cases h
/-- y = [..]: whether the model swaps -/
def lcSwap (sc : Scope) (y : Str) (py : Pos) (scope : Scope) (vp : Pos) : Bool := (sc.names.lookup y == some .local) && ((py.line == vp.line) && !(scope.names.any fun (n, k) => n == y && (k == .local || k == .cell)))
theorem lc_swaps {el : Expr} {gs : List Comprehension} {scope : Scope} {q py : Pos} {y : Str} {l : Nat} {env : PySem.Env} (hk : env.scope.kind = .function) (h : lcSwap env.scope y py scope q = false) :
    swapsWith (.ListComp el gs scope q) (some (.Name y py)) l env = pure false := by
  have hb : env.blockKind = .function := by unfold Env.blockKind; rw [hk]; rfl
  have e : (env.blockKind == .function && env.kindOf y == some .local && py.line == q.line && !(scope.names.any fun (n, k) => n == y && (k == .local || k == .cell))) = false := by
    rw [hb]
    unfold lcSwap at h
    show ((ScopeKind.function == ScopeKind.function) && (env.scope.names.lookup y == some .local) && (py.line == q.line) && _) = false
    cases a : (env.scope.names.lookup y == some NameKind.local) <;> rw [a] at h <;> cases b : (py.line == q.line) <;> rw [b] at h <;> first | rfl | (simp only [Bool.true_and] at h; rw [h]; rfl)
  unfold swapsWith
  simp only [Expr.pos]
  show (pure _ : Sem Bool) = pure false
  exact congrArg pure e
theorem t_set (i : Nat) (e : CE) : SndS F k (.set i e) := by
  refine ss_of (fun {X N sc} G {st} h => ?_) (fun _ _ _ => rfl)
  intro env s σ H ρ D re rs hp
  unfold isS at h
  split at h
  · rename_i y py x pos
    simp only [Bool.and_eq_true, decide_eq_true_eq] at h
    obtain ⟨h1, h2, h3⟩ := h
    have hN : X.N.Nodup := by rw [G.hN]; exact G.nd
    have hi : X.N[i]? = some y := by rw [G.hN]; exact h1
    have plain : swapsWith x (some (.Name y py)) pos.line X.env = pure false → WSt X (.Assign [.Name y py] x pos) D σ H := fun hsw => by
      obtain ⟨v, s1, e1, hp⟩ := PostF.bndX (r := evalE F e env s) hp
      refine of_ps (ps_set hN hi (G.loc h2) WE.pe hsw (G.hf y)) (se_use ((snd_all e).e G.toGood h3) re rs e1 fun V H1 ρ1 x1 g1 rs1 re1 rv1 => ?_)
      exact PostF.here (PostF.mono hp x1 g1) rs1 (re1.set rv1)
    by_cases hx : noLC x = true
    · exact plain (noLC_swap hx)
    · cases e with
      | comp kd ci src cond elt =>
        obtain ⟨el, z, p, it, ifs, scope, q, rfl, k1, k2, k3, k4, k5, k6, k7⟩ := isE_comp h3
        cases hs : lcSwap sc y py scope q with
        | false => exact plain (lc_swaps (by rw [G.hsc]; exact G.kind) (by rw [G.hsc]; exact hs))
        | true =>
          unfold lcSwap at hs
          simp only [Bool.and_eq_true, Bool.not_eq_true', beq_iff_eq] at hs
          obtain ⟨l1, l2, l3⟩ := hs
          have G0 := G.toGood
          refine of_ps (ps_setLc (i := i) (own := [(z, ci)]) (g := gName ci) (tt := tIfs X scope ifs) (te := tElt X scope el) G.calm hN hi (by rw [G.hsc]; exact l1) (sw_true (by rw [G.hsc]; exact G.kind) (by rw [G.hsc]; exact l1) (by rw [beq_iff_eq]; exact l2) l3) WI.pi (blkOk_by (by rw [G.hN, G.hsc]; exact k1)) (fun s H0 C cl fp => ?_) (fun s H0 C cl fp => ?_) (fun s H0 C cl fp => ?_) (plain_fold k4)) ?_
          · have G2 := G0.blk s H0 C cl fp ci z k1
            exact pg_name (by rw [G2.hN]; exact G2.nd) (by rw [G2.hN]; exact k2) (.inl (by rw [G2.hsc]; exact k3)) (.inr (by rw [G2.hsc]; exact k3))
          · exact ⟨fun pins s' σ' H' Q' I h => WTs.pts.run pins s' σ' H' Q' I (h s H0 C cl fp)⟩
          · exact ⟨fun pins s' σ' H' Q' I h => (h s H0 C cl fp) pins s' I⟩
          · show tLc (WI X _ it) (gName ci) (tIfs X scope ifs) (tElt X scope el) [ci] σ H (fun x H1 => gName i x σ H1 D.nx)
            refine comp_read G0 (snd_all src) (snd_all cond) (snd_all elt) k1 k5 k6 k7 re rs ?_
            obtain ⟨v, s1, e1, hp⟩ := PostF.bndX (r := evalE F (.comp kd ci src cond elt) env s) hp
            rw [e1]
            exact fun V H1 ρ1 x1 g1 rs1 rv1 => PostF.here (PostF.mono hp x1 g1) rs1 ((re.mono x1 g1).set rv1)
      | _ =>
        exfalso
        apply hx
        cases x <;> first | rfl | cases h3
  · cases h
theorem t_tset (is : List Nat) (e : CE) : SndS F k (.tset is e) := by
  refine ss_of (fun {X N sc} G {st} h => ?_) (fun _ _ _ => rfl)
  intro env s σ H ρ D re rs hp
  unfold isS at h
  split at h
  · rename_i ts j tp x pos
    simp only [Bool.and_eq_true] at h
    obtain ⟨h1, h2, h3⟩ := h
    obtain ⟨g, g1, g2, g3, g4⟩ := names_set G h2
    obtain ⟨v, s1, e1, hp⟩ := PostF.bnd (r := evalE F e env s) hp
    refine of_ps (ps_asg WE.pe (pg_tup (n := is.length) G.calm g1 g2 g3) (show swapsWith x (some (.Tuple ts j tp)) pos.line X.env = pure false from noLC_swap (noTL_lc h1)) (noTL_stores h1) rfl) (se_use ((snd_all e).e G.toGood h3) re rs e1 fun V H1 ρ1 x1 g1' rs1 re1 rv1 => ?_)
    cases rv1 with
    | @tup xs a vs hs hv =>
      have hp : PostF X.K ρ H (match setAll is xs env with | some env1 => .ok (.next, env1) s1 | none => .stuck) D := hp
      cases e2 : setAll is xs env with
      | none => rw [e2] at hp; exact hp.elim
      | some env1 =>
        rw [e2] at hp
        have hl : ∀ (is : List Nat) (xs : List Val) (env env1 : Env), setAll is xs env = some env1 → xs.length = is.length := by
          intro is
          induction is with
          | nil => intro xs env env1 e; cases xs with
            | nil => rfl
            | cons _ _ => cases e
          | cons i is ih => intro xs env env1 e; cases xs with
            | nil => cases e
            | cons x xs => rw [List.length_cons, List.length_cons, ih xs _ _ e]
        refine ⟨a, vs, rfl, hs, by rw [← hv.length]; exact hl is xs env env1 e2, ?_⟩
        exact g4 xs vs env env1 σ H1 ρ1 D.nx e2 hv re1 fun σ' re' => PostF.here (PostF.mono hp x1 g1') rs1 re'
    | _ => exact hp.elim
  · cases h
theorem swap_two {x y : Str} {u v : Expr} {p q pt pt2 : Pos} {kt k2 : Nat} {env : PySem.Env} (hk : env.scope.kind = .function) (hx : env.scope.names.lookup x = some .local) (hy : env.scope.names.lookup y = some .local) (hl : (q.line == p.line) = true) (hne : x ≠ y) (pu : plainX u = true) (pv : plainX v = true) (hf : [u, v].all (foldedForSure 8) = false) (hc : [u, v].all (constantsAlone 8) = false) :
    swappedStores [.Tuple [.Name x p, .Name y q] kt pt] (.Tuple [u, v] k2 pt2) env = pure (some [x, y]) := by
  have hb : env.blockKind = .function := by
    unfold PySem.Env.blockKind
    rw [hk]; rfl
  have hs : ([u, v].any fun | .Starred .. => true | _ => false) = false := by
    have : ∀ e : Expr, plainX e = true → (match e with | .Starred .. => true | _ => false) = false := fun e h => by cases e <;> first | rfl | cases h
    simp only [List.any_cons, List.any_nil, Bool.or_false]
    rw [this u pu, this v pv]; rfl
  have hn : ([Expr.Name x p, .Name y q].filterMap fun
    | .Name id pos => if env.kindOf id == some .local && pos.line == p.line then some id else none
    | _ => none) = [x, y] := by
    have kx : (env.kindOf x == some .local) = true := by unfold PySem.Env.kindOf; rw [hx]; rfl
    have ky : (env.kindOf y == some .local) = true := by unfold PySem.Env.kindOf; rw [hy]; rfl
    simp only [List.filterMap_cons, List.filterMap_nil, kx, ky, hl, Bool.true_and, beq_self_eq_true, if_true]
  have hd : ([x, y].eraseDups.length != [x, y].length) = false := by
    have : [x, y].eraseDups = [x, y] := by
      rw [List.eraseDups_cons]
      have e : (y == x) = false := by simp; exact fun h => hne h.symm
      simp [e]
      rfl
    rw [this]; rfl
  unfold swappedStores
  simp only [hb]
  show (if ([u, v].any fun | .Starred .. => true | _ => false) = true then pure none else
    if (([Expr.Name x p, .Name y q].filterMap fun
      | .Name id pos => if env.kindOf id == some .local && pos.line == p.line then some id else none
      | _ => none).length != 2 || (([Expr.Name x p, .Name y q].filterMap fun
      | .Name id pos => if env.kindOf id == some .local && pos.line == p.line then some id else none
      | _ => none).eraseDups.length != ([Expr.Name x p, .Name y q].filterMap fun
      | .Name id pos => if env.kindOf id == some .local && pos.line == p.line then some id else none
      | _ => none).length)) = true then pure none else _) = _
  rw [hs, hn, hd, hf, hc]
  exact congrArg (fun z => (pure (some z) : Sem (Option (List Str)))) hn
theorem t_tpar (i j : Nat) (e : CE) : SndS F k (.tpar i j e) := by
  refine ss_of (fun {X N sc} G {st} h => ?_) (fun _ _ _ => rfl)
  intro env s σ H ρ D re rs hp
  unfold isS at h
  split at h
  · rename_i x p y q kt pt u v k2 pt2 pos
    simp only [Bool.and_eq_true, decide_eq_true_eq, Bool.not_eq_true'] at h
    obtain ⟨h1, h2, h3, h4, h5, h6, h7, h8, h9, h10⟩ := h
    obtain ⟨w, s1, e1, hp⟩ := PostF.bnd (r := evalE F e env s) hp
    have pl := isEs_plain h10
    simp only [List.all_cons, List.all_nil, Bool.and_true, Bool.and_eq_true] at pl
    have G2 := G.toGood
    split at hp
    · rename_i a b
      refine of_ps (ps_par G.calm (by rw [G2.hN]; exact G2.nd) (by rw [G2.hN]; exact h1) (by rw [G2.hN]; exact h2) h3 (by rw [G2.hsc]; exact h5) (by rw [G2.hsc]; exact h6) WA.pa (swap_two (by rw [G2.hsc]; exact G.kind) (by rw [G2.hsc]; exact h5) (by rw [G2.hsc]; exact h6) h7 h4 pl.1 pl.2 h8 h9)) ?_
      refine sa_use ((snd_all e).a G2 h10) re rs e1 fun vs H1 ρ1 x1 g1 rs1 re1 rv1 => ?_
      cases rv1 with
      | cons r1 rl =>
        cases rl with
        | cons r2 rl =>
          cases rl
          exact ⟨_, _, rfl, PostF.here (PostF.mono hp x1 g1) rs1 ((re1.set r1).set r2)⟩
    · exact hp.elim
  · cases h
/-- o[i] = v of a list or of a dict -/
def rSetA : TSet := fun o i v H Q => rSetL o i v H Q ∨ rSetD o i v H Q
theorem set_any {X : Cx} (hu : X.A.units + 1 < cLine) : PSet X rSetA := by
  intro pins s σ H o i v ov iv u Q I ro ri rv h
  rcases h with h | h
  · exact set_list pins s σ H o i v ov iv u Q I ro ri rv h
  · exact set_dict hu pins s σ H o i v ov iv u Q I ro ri rv h
theorem t_sub (o i e : CE) : SndS F k (.sub o i e) := by
  refine ss_of (fun {X N sc} G {st} h => ?_) (fun _ _ _ => rfl)
  intro env s σ H ρ D re rs hp
  unfold isS at h
  split at h
  · rename_i y z q x pos
    simp only [Bool.and_eq_true] at h
    obtain ⟨h1, h2, h3, h4, h5⟩ := h
    obtain ⟨v, s1, e1, hp⟩ := PostF.bnd (r := evalE F e env s) hp
    obtain ⟨ov, s2, e2, hp⟩ := PostF.bnd (r := evalE F o env s1) hp
    obtain ⟨iv, s3, e3, hp⟩ := PostF.bnd (r := evalE F i env s2) hp
    obtain ⟨u, s4, e4, hp⟩ := PostF.bnd (r := subStore ov iv v s3) hp
    have ha : ∀ w, assign (.Subscript y z q) X.env w = (do
      let ov ← holding [w] (eval y X.env)
      let iv ← holding [w, ov] (eval z X.env)
      standAt q
      holding [w, ov, iv] (setItem ov iv w)
      release [w, ov, iv] []) := by
      intro w
      cases z <;> first | rfl | cases h2
    refine of_ps (ps_asg WE.pe (pg_sub WE.pe WE.pe (set_any (by have := G.toGood.units; omega)) ha) (show swapsWith x (some (.Subscript y z q)) pos.line X.env = pure false from noLC_swap h1) (by cases x <;> rfl) rfl) (se_use ((snd_all e).e G.toGood h5) re rs e1 fun V H1 ρ1 x1 g1 rs1 re1 rv1 => ?_)
    refine se_use ((snd_all o).e G.toGood h3) re1 rs1 e2 fun O H2 ρ2 x2 g2 rs2 re2 rv2 => ?_
    refine se_use ((snd_all i).e G.toGood h4) re2 rs2 e3 fun I H3 ρ3 x3 g3 rs3 re3 rv3 => ?_
    have rv1' := RV.mono (x2.trans x3) (g2.trans g3) _ _ rv1
    have rv2' := RV.mono x3 g3 _ _ rv2
    cases rv2' with
    | @ref n a hn =>
      have e4 : (match s3[n]? with
        | some (.lst xs) => (match iv with
          | .int k => (match L2.ixN xs.length k with | some j => Res.ok () (s3.set n (.lst (xs.set j v))) | none => .stuck)
          | _ => .stuck)
        | some (.dict kvs) => (match keyOf iv with
          | some k => need (kvs.length < sizeLine) (.ok () (s3.set n (.dict (putKV kvs k v))))
          | none => .stuck)
        | _ => .stuck) = .ok u s4 := e4
      split at e4
      · rename_i xs ex
        cases rv3 with
        | int kk =>
          replace e4 : (match L2.ixN xs.length kk with | some j => Res.ok () (s3.set n (.lst (xs.set j v))) | none => .stuck) = .ok u s4 := e4
          cases ej : L2.ixN xs.length kk with
          | none => rw [ej] at e4; cases e4
          | some j =>
            rw [ej] at e4
            cases e4
            obtain ⟨ws, c1, c2⟩ := rs3.at_ ex hn
            have hg : Gr X.K H3 (upd H3 a (.lst (ws.set j V))) := Gr.write c1 (fun _ z => nomatch z) (fun _ _ z => nomatch z)
            refine .inl ⟨a, ws, kk, j, rfl, rfl, c1, by rw [← c2.length]; exact ej, ?_⟩
            exact PostF.here (PostF.mono hp (x1.trans (x2.trans x3)) (g1.trans (g2.trans (g3.trans hg)))) (rs3.write (c' := .lst (xs.set j v)) ex hn rfl rfl hg ⟨_, upd_same, RVs.mono Ex.refl hg _ _ (RVs.set rv1' j c2)⟩) (re3.mono Ex.refl hg)
        | _ => cases e4
      · rename_i kvs ex
        cases ek : keyOf iv with
        | none => rw [ek] at e4; cases e4
        | some k =>
          rw [ek] at e4
          obtain ⟨hlen, e4⟩ := need_ok e4
          cases e4
          have := keyOf_ok rv3 ek
          subst this
          obtain ⟨ws, c1, c2⟩ := rs3.at_ ex hn
          have hg : Gr X.K H3 (upd H3 a (.dK (putK ws k V))) := Gr.write c1 (fun _ z => nomatch z) (fun _ _ z => nomatch z)
          refine .inr ⟨a, _, rfl, DPut.k c1 (by rw [← c2.length]; exact hlen), ?_⟩
          exact PostF.here (PostF.mono hp (x1.trans (x2.trans x3)) (g1.trans (g2.trans (g3.trans hg)))) (rs3.write (c' := .dict (putKV kvs k v)) ex hn rfl rfl hg ⟨_, upd_same, (c2.put rv1').mono Ex.refl hg⟩) (re3.mono Ex.refl hg)
      · cases e4
    | _ => cases e4
  · cases h
theorem t_if {c : CE} {a b : CS} (ha : SndS F k a) (hb : SndS F k b) : SndS F k (.if_ c a b) := by
  refine ss_of (fun {X N sc} G {st} h => ?_) (fun _ _ _ => rfl)
  intro env s σ H ρ D re rs hp
  cases st with
  | If x as bs p =>
    have h : (isE N c sc x && (isSs N sc a as && isSs N sc b bs)) = true := h
    simp only [Bool.and_eq_true] at h
    obtain ⟨v, s1, e1, hp1⟩ := PostF.bnd (r := evalE F c env s) hp
    obtain ⟨t, s2, e2, hp2⟩ := PostF.bnd (r := testV v s1) hp1
    obtain ⟨e3, e4⟩ := testV_eq e2
    rw [e4] at hp2
    refine of_ps (ps_if WT.pt WSs.pss WSs.pss) (st_use ((snd_all c).t G.toGood h.1) re rs e1 e3 fun H1 ρ1 x1 g1 rs1 re1 => ?_)
    cases t with
    | true => exact ha.ss G h.2.1 env s1 σ H1 ρ1 D re1 rs1 (PostF.mono hp2 x1 g1)
    | false => exact hb.ss G h.2.2 env s1 σ H1 ρ1 D re1 rs1 (PostF.mono hp2 x1 g1)
  | _ => cases h
theorem t_while {c : CE} {a : CS} (ha : SndS F k a) : SndS F k (.while_ c a) := by
  refine ss_of (fun {X N sc} G {st} h => ?_) (fun _ _ _ => rfl)
  intro env s σ H ρ D re rs hp
  cases st with
  | While x as os p =>
    cases os with
    | cons _ _ => cases h
    | nil =>
      have h : (isE N c sc x && isSs N sc a as) = true := h
      simp only [Bool.and_eq_true] at h
      refine of_ps (ps_while G.pass WT.pt WSs.pss) ?_
      have hp : PostF X.K ρ H (whileLoop (fun env s => (evalE F c env s).bind fun x s1 => testV x s1) (fun env s => evalS F a env s) F.fuel env s) D := hp
      refine ⟨fun m σ H => ∃ env st ρ', Ex ρ ρ' ∧ RS X.K ρ' H st ∧ RE X.K ρ' H env σ ∧ PostF X.K ρ' H (whileLoop (fun env s => (evalE F c env s).bind fun x s1 => testV x s1) (fun env s => evalS F a env s) m env st) D, ⟨F.fuel, env, s, ρ, Ex.refl, rs, re, hp⟩, ?_⟩
      rintro m σ H ⟨env, st, ρ', x0, rs, re, hp⟩
      cases m with
      | zero => exact hp.elim
      | succ m =>
        unfold whileLoop at hp
        obtain ⟨t, s2, e2, hp1⟩ := PostF.bnd hp
        obtain ⟨v, s1, e1, e3⟩ := bind_eq_ok e2
        obtain ⟨e4, e5⟩ := testV_eq e3
        rw [e5] at hp1
        refine st_use ((snd_all c).t G.toGood h.1) re rs e1 e4 fun H1 ρ1 x1 g1 rs1 re1 => ?_
        cases t with
        | false => exact PostF.here (PostF.mono hp1 x1 g1) rs1 re1
        | true =>
          refine ⟨fun σ H => ∃ env st ρ', Ex ρ ρ' ∧ RS X.K ρ' H st ∧ RE X.K ρ' H env σ ∧ PostF X.K ρ' H (whileLoop (fun env s => (evalE F c env s).bind fun x s1 => testV x s1) (fun env s => evalS F a env s) m env st) D, fun σ' H' q => ⟨m, Nat.lt_succ_self m, q⟩, ?_⟩
          refine ha.ss G h.2 env s1 σ H1 ρ1 _ re1 rs1 ?_
          obtain ⟨p, s6, e6, hp2⟩ := PostF.bnd (r := evalS F a env s1) hp1
          rw [e6]
          obtain ⟨f, env1⟩ := p
          intro σ' H' ρ2 x2 g2 rs2 re2
          cases f with
          | next => exact ⟨env1, s6, ρ2, x0.trans (x1.trans x2), rs2, re2, PostF.mono hp2 (x1.trans x2) (g1.trans g2)⟩
          | cont => exact ⟨env1, s6, ρ2, x0.trans (x1.trans x2), rs2, re2, PostF.mono hp2 (x1.trans x2) (g1.trans g2)⟩
          | brk => exact PostF.here (PostF.mono hp2 (x1.trans x2) (g1.trans g2)) rs2 re2
          | ret v => exact hp2 σ' H' ρ2 (x1.trans x2) (g1.trans g2) rs2 re2
  | _ => cases h
/-- a for's target -/
theorem tgt_ok (G : GoodS X N sc F k) {is : List Nat} {tg : Expr} (h : isTgt N sc is tg = true) : ∃ g : TG, PG X tg g ∧
    ∀ (x : Val) (v : V) (env env1 : Env) (σ : L2.St) (H : Hp) (ρ : List Addr) (Q : L2.St → Hp → Prop), bindTo is x env = some env1 → RV X.K ρ H x v → RE X.K ρ H env σ → (∀ σ', RE X.K ρ H env1 σ' → Q σ' H) → g v σ H Q := by
  cases tg with
  | Name y p =>
    unfold isTgt at h
    simp only at h
    split at h
    · rename_i i
      simp only [Bool.and_eq_true, decide_eq_true_eq] at h
      refine ⟨_, pg_name (by rw [G.hN]; exact G.nd) (by rw [G.hN]; exact h.1) (G.loc h.2) (G.hf y), fun x v env env1 σ H ρ Q e rv re hq => ?_⟩
      cases e
      exact hq _ (re.set rv)
    · cases h
  | Tuple ts j p =>
    have h : (decide (2 ≤ is.length) && isNames N sc is ts) = true := h
    simp only [Bool.and_eq_true, decide_eq_true_eq] at h
    obtain ⟨g, g1, g2, g3, g4⟩ := names_set G h.2
    refine ⟨_, pg_tup (n := is.length) G.calm g1 g2 g3, fun x v env env1 σ H ρ Q e rv re hq => ?_⟩
    have e' : ∃ xs, x = .tup xs ∧ setAll is xs env = some env1 := by
      unfold bindTo at e
      split at e
      · rename_i hl; simp at h
      · exact ⟨_, rfl, e⟩
      · cases e
    obtain ⟨xs, rfl, e2⟩ := e'
    cases rv with
    | @tup _ a vs hs hv =>
      have hl : ∀ (is : List Nat) (xs : List Val) (env env1 : Env), setAll is xs env = some env1 → xs.length = is.length := by
        intro is
        induction is with
        | nil => intro xs env env1 e; cases xs with
          | nil => rfl
          | cons _ _ => cases e
        | cons i is ih => intro xs env env1 e; cases xs with
          | nil => cases e
          | cons x xs => rw [List.length_cons, List.length_cons, ih xs _ _ e]
      exact ⟨a, vs, rfl, hs, by rw [← hv.length]; exact hl is xs env env1 e2, g4 xs vs env env1 σ H ρ Q e2 hv re hq⟩
  | _ => cases h
theorem t_for {kd : Src} {is : List Nat} {src : CE} {a : CS} (ha : SndS F k a) : SndS F k (.for_ kd is src a) := by
  refine ss_of (fun {X N sc} G {st} h => ?_) (fun _ _ _ => rfl)
  intro env s σ H ρ D re rs hp
  cases st with
  | For tg it as os p =>
    cases os with
    | cons _ _ => cases h
    | nil =>
      have h : (isTgt N sc is tg && (plainX it && (isSrc N kd src sc it && isSs N sc a as))) = true := h
      simp only [Bool.and_eq_true] at h
      obtain ⟨h1, h2, h3, h4⟩ := h
      obtain ⟨g, pg, gq⟩ := tgt_ok G h1
      obtain ⟨v, s1, e1, hp⟩ := PostF.bnd (r := evalE F src env s) hp
      cases e2 : srcItems kd v s1 with
      | none => rw [e2] at hp; exact hp.elim
      | some xs =>
        rw [e2] at hp
        refine of_ps (ps_for G.pass G.calm WI.pi pg WSs.pss (plain_fold h2)) ?_
        refine src_use G.toGood (snd_all src) h3 re rs e1 e2 fun J H1 ρ1 x1 g1 rs1 re1 jok => ?_
        have hp1 : PostF X.K ρ1 H1 (forLoop is (stays kd v xs) (fun env s => evalS F a env s) xs env s1) D := PostF.mono hp x1 g1
        clear hp
        refine ⟨fun j m σ Hc => m = xs.length - j ∧ j ≤ xs.length ∧ ∃ env st' ρ', Ex ρ1 ρ' ∧ Gr X.K H1 Hc ∧ RS X.K ρ' Hc st' ∧ RE X.K ρ' Hc env σ ∧ PostF X.K ρ' Hc (forLoop is (stays kd v xs) (fun env s => evalS F a env s) (xs.drop j) env st') D,
          ⟨xs.length, by simp, Nat.zero_le _, env, s1, ρ1, Ex.refl, Gr.refl, rs1, re1, hp1⟩, ?_⟩
        rintro j m σ Hc ⟨rfl, hj, env, st', ρ', x2, g2, rs2, re2, hp2⟩
        by_cases hlt : j < xs.length
        · obtain ⟨z, hz⟩ : ∃ z, xs[j]? = some z := ⟨_, List.getElem?_eq_getElem hlt⟩
          have hdr : xs.drop j = z :: xs.drop (j + 1) := by
            rw [List.drop_eq_getElem_cons hlt]
            rw [List.getElem?_eq_getElem hlt] at hz
            cases hz; rfl
          rw [hdr] at hp2
          unfold forLoop at hp2
          split at hp2
          · rename_i hst
            obtain ⟨j1, j2, _⟩ := jok ρ' Hc st' x2 g2 rs2 hst j
            refine .inr ⟨j1 hlt, fun σ Hc => ∃ env st' ρ', Ex ρ1 ρ' ∧ Gr X.K H1 Hc ∧ RS X.K ρ' Hc st' ∧ RE X.K ρ' Hc env σ ∧ PostF X.K ρ' Hc (forLoop is (stays kd v xs) (fun env s => evalS F a env s) (xs.drop (j + 1)) env st') D, fun σ' H' nx => ⟨xs.length - (j + 1), by omega, rfl, hlt, nx⟩, fun x H' yl => ?_⟩
            obtain ⟨eH, rvx⟩ := j2 x H' z hz yl
            subst eH
            cases eb : bindTo is z env with
            | none => rw [eb] at hp2; exact hp2.elim
            | some env1 =>
              rw [eb] at hp2
              refine gq z x env env1 σ _ ρ' _ eb rvx re2 fun σ' re3 => ?_
              refine ha.ss G h4 env1 st' σ' H' ρ' _ re3 rs2 ?_
              obtain ⟨p, s6, e6, hp3⟩ := PostF.bndX (r := evalS F a env1 st') hp2
              rw [e6]
              obtain ⟨f, env2⟩ := p
              intro σ2 H2 ρ2 x3 g3 rs3 re4
              cases f with
              | next => exact ⟨env2, s6, ρ2, x2.trans x3, g2.trans g3, rs3, re4, PostF.mono hp3 x3 g3⟩
              | cont => exact ⟨env2, s6, ρ2, x2.trans x3, g2.trans g3, rs3, re4, PostF.mono hp3 x3 g3⟩
              | brk => exact PostF.here (PostF.mono hp3 x3 g3) rs3 re4
              | ret v => exact hp3 σ2 H2 ρ2 x3 g3 rs3 re4
          · exact hp2.elim
        · have ej : j = xs.length := by omega
          subst ej
          rw [List.drop_length] at hp2
          unfold forLoop at hp2
          split at hp2
          · rename_i hst
            obtain ⟨_, _, j3⟩ := jok ρ' Hc st' x2 g2 rs2 hst xs.length
            exact .inl ⟨j3 (Nat.le_refl _), PostF.here hp2 rs2 re2⟩
          · exact hp2.elim
  | _ => cases h
theorem t_raise0 (c : Str) : SndS F k (.raise0 c) := by
  refine ss_of (fun {X N sc} G {st} h => ?_) (fun _ _ _ => rfl)
  intro env s σ H ρ D re rs hp
  have hp : PostF X.K ρ H (if c ∈ exc0 ∧ F.fuel % 2 = 1 then Res.exc c .none s else .stuck) D := hp
  split at hp <;> exact hp.elim
theorem t_raise1 (c : Str) (e : CE) : SndS F k (.raise1 c e) := by
  refine ss_of (fun {X N sc} G {st} h => ?_) (fun _ _ _ => rfl)
  intro env s σ H ρ D re rs hp
  have hp : PostF X.K ρ H (if c = "Over" ∧ F.fuel % 2 = 1 then ((evalE F e env s).bind fun v s1 => (Res.exc c v s1 : Res (Flow × Env))) else .stuck) D := hp
  split at hp
  · obtain ⟨v, s1, e1, hp⟩ := PostF.bnd (r := evalE F e env s) hp
    exact hp.elim
  · exact hp.elim
theorem RE.setNone {K : PySem.W.Frag} {ρ : List Addr} {H : Hp} {env : Env} {σ : L2.St} {i : Nat} (r : RE K ρ H env σ) : RE K ρ H (env.set i none) (σ.set i none) := by
  refine ⟨by rw [List.length_set, List.length_set, r.len], fun j w e => ?_⟩
  by_cases hj : i = j
  · subst hj
    have hi : i < env.length := by
      have := (List.getElem?_eq_some_iff.mp e).1
      simpa using this
    rw [List.getElem?_set_self hi] at e
    cases e
  · rw [List.getElem?_set_ne hj] at e ⊢
    exact r.at_ j w e
theorem Good.tr {X : Cx} {N : List Str} {sc : Scope} (G : Good X N sc F k) (pn : List (Addr × Obj)) (xe : Value → Shared → Prop) (po : PassesOwn (model X.prog X.w) X.A X.env xe) : Good (X.tr pn xe) N sc F k := ⟨G.hN, G.hsc, G.nd, G.calm, G.room, po, G.fns, G.exc, G.gl, G.free⟩
theorem t_try (i : Nat) (e : CE) (x : Str) (n j : Nat) : SndS F k (.tryc i e x n j) := by
  refine ss_of (fun {X N sc} G {st} h => ?_) (fun _ _ _ => rfl)
  intro env s σ H ρ D re rs hp
  unfold isS at h
  split at h
  · rename_i y py ex ap x' xp n' m mp n2 np mpos hpos tpos
    simp only [Bool.and_eq_true, decide_eq_true_eq] at h
    obtain ⟨h1, h2, h3, h4, h5, h6, h7, h8, h9, h10, h11, h13, h12⟩ := h
    subst h1 h12
    have hp : PostF X.K ρ H (if x = "ScoreError" ∧ F.fuel % 2 = 1 then (match evalE F e env s with
      | .ok v s1 => Res.ok (Flow.next, env.set i (some v)) s1
      | .exc c v s1 => .ok (.next, (env.set j (some (.ref s1.length))).set n none) (s1 ++ [.inst c (excFs c v)])
      | .stuck => .stuck) else .stuck) D := hp
    split at hp
    · rename_i hx
      have O := G.exc hx.2
      have hN : X.N.Nodup := by rw [G.hN]; exact G.nd
      have hi : X.N[i]? = some y := by rw [G.hN]; exact h3
      have hn : X.N[n]? = some n2 := by rw [G.hN]; exact h8
      have hj : X.N[j]? = some m := by rw [G.hN]; exact h10
      have hln : X.env.kindOf n2 = some .local := by
        show X.env.scope.names.lookup n2 = some .local
        rw [G.hsc]; exact h9
      have hlm : X.env.kindOf m = some .local := by
        show X.env.scope.names.lookup m = some .local
        rw [G.hsc]; exact h11
      refine of_ps (ps_try_keep (c := .ref (cA X.K "ScoreError")) (tb := fun W D σ H => ∀ pn xe, Takes (X.tr pn xe) W → PassesOwn (model X.prog X.w) X.A X.env xe → WSs (X.tr pn xe) [.Assign [.Name y py] ex ap] D σ H) G.stk G.frm hN hn hj hln hlm ⟨G.glo h2, by decide, .inl (O.gl "ScoreError" (.inl rfl))⟩ G.ex0 (fun W pn xe tk po => ⟨fun pins s σ H D I h => (h pn xe tk po) pins s I⟩) (fun a oe pn => ⟨fun pins s σ H D I h => ?_⟩)) ?_
      · exact (pss_one (ps_set (X := X.suite a ((a, oe) :: pn)) hN hj (.inl hlm) (pe_var (i := n) hn (.inl hln) (okNm1 h13) (okNm2 h13)) rfl (.inr hlm))).run pins s σ H D I ⟨_, h.1, h.2⟩
      · intro pn xe tk po
        have GY := G.toGood.tr pn xe po
        refine of_pss (pss_one (ps_set (X := X.tr pn xe) hN hi (G.loc h4) WE.pe (noLC_swap h5) (G.hf y))) ?_
        cases e1 : evalE F e env s with
        | ok v s1 =>
          rw [e1] at hp
          refine id (se_use (X := X.tr pn xe) ((snd_all e).e GY h6) re rs e1 fun V H1 ρ1 x1 g1 rs1 re1 rv1 => ?_)
          exact PostF.here (PostF.mono hp x1 g1) rs1 (re1.set rv1)
        | exc c v s1 =>
          rw [e1] at hp
          refine (rx_all e h7 (X := X.tr pn xe) GY tk).1 h6 env s σ H ρ _ re rs ?_
          rw [e1]
          intro cls d H' ρ' x1 g1 rs1 xr
          obtain ⟨C, n1, rfl, fr, hc⟩ := xr
          have hC : C = cA X.K c := by
            unfold cA
            have n1 : PySem.W.nsIn X.K mainGlobals c = some (some (.ref C)) := n1
            rw [n1]
          refine ⟨by rw [hC]; exact O.exm c hc, fun a ha => ?_⟩
          have gn : Gr X.K H' (upd H' a (exK a (.ref C) d)) := Gr.new ha
          have rc : RC X.K (ρ' ++ [a]) (upd H' a (exK a (.ref C) d)) (.inst c (excFs c v)) a := ⟨C, d, n1, by rw [upd_same], fr.mono ⟨[a], rfl⟩ gn, hc⟩
          have rs2 := rs1.alloc ha rc
          have rva : RV X.K (ρ' ++ [a]) (upd H' a (exK a (.ref C) d)) (.ref s1.length) (.ref a) := .ref (by rw [← rs1.len, List.getElem?_append_right (Nat.le_refl _)]; simp)
          refine hp _ _ (ρ' ++ [a]) (x1.trans ⟨[a], rfl⟩) (g1.trans gn) rs2 ?_
          have r1 := (re.mono (x1.trans ⟨[a], rfl⟩) (g1.trans gn)).set (i := n) rva
          have r2 := r1.set (i := j) rva
          have r3 := r2.setNone (i := n)
          -- the evaluator's slots: n is never seen
          refine ⟨?_, fun q w eq => ?_⟩
          · have := r3.len
            simpa using this
          · by_cases hq : n = q
            · subst hq
              have hl : n < (env.set j (some (.ref s1.length))).length := by
                have := (List.getElem?_eq_some_iff.mp eq).1
                simpa using this
              rw [List.getElem?_set_self hl] at eq
              cases eq
            · refine r3.at_ q w ?_
              rw [List.getElem?_set_ne hq] at eq ⊢
              by_cases hq2 : j = q
              · subst hq2
                have hl : j < env.length := by
                  have := (List.getElem?_eq_some_iff.mp eq).1
                  simpa using this
                rw [List.getElem?_set_self hl] at eq
                rw [List.getElem?_set_self (by simpa using hl)]
                exact eq
              · rw [List.getElem?_set_ne hq2] at eq ⊢
                rw [List.getElem?_set_ne hq]
                exact eq
        | stuck => rw [e1] at hp; exact hp.elim
    · exact hp.elim
  · cases h
/-- ALL STATEMENTS -/
theorem sndS_all : ∀ c : CS, SndS F k c := by
  intro c
  induction c with
  | skip => exact t_skip
  | seq a r ha hr => exact t_seq ha hr
  | expr e => exact t_expr e
  | ret e => exact t_ret e
  | retN => exact t_retN
  | pass => exact t_pass
  | brk => exact t_brk
  | cont => exact t_cont
  | set i e => exact t_set i e
  | tset is e => exact t_tset is e
  | tpar i j e => exact t_tpar i j e
  | sub o i e => exact t_sub o i e
  | if_ c a b ha hb => exact t_if ha hb
  | while_ c a ha => exact t_while ha
  | for_ kd is src a ha => exact t_for ha
  | never => exact t_never
  | raise0 c => exact t_raise0 c
  | raise1 c e => exact t_raise1 c e
  | tryc i e x n j => exact t_try i e x n j
end
end Ev

set_option Elab.async false
set_option linter.all false
set_option maxRecDepth 100000
set_option maxHeartbeats 4000000
/-! ## Functions, and the law's end -/
namespace Ev
open PySem PySem.Spec PyProof.Rows L2
/-! ### statements that raise -/
section
variable {F : Fns} {k : Nat}
def RaSt (X : Cx) (E : XK) (F : Fns) (c : CS) (st : Stmt) : Prop := ∀ (env : Env) (s : Store) (σ : L2.St) (H : Hp) (ρ : List Addr) (D : Ends), RE X.K ρ H env σ → RS X.K ρ H s → PostX X.K ρ H (evalS F c env s) E → WSt X st D σ H
def RaSs (X : Cx) (E : XK) (F : Fns) (c : CS) (sts : List Stmt) : Prop := ∀ (env : Env) (s : Store) (σ : L2.St) (H : Hp) (ρ : List Addr) (D : Ends), RE X.K ρ H env σ → RS X.K ρ H s → PostX X.K ρ H (evalS F c env s) E → WSs X sts D σ H
theorem nx_sub {o i v : Val} {st : Store} : NX (subStore o i v st) := by unfold subStore; ((repeat' split) <;> first | exact nx_ok | exact nx_stuck | exact nx_need nx_ok | exact nx_need nx_stuck)
theorem exc0_ndb {c : Str} (h : c ∈ exc0) : (c == ("__debug__" : Str)) = false ∧ c ≠ "Over" := by
  have : ∀ c ∈ exc0, (c == ("__debug__" : Str)) = false ∧ c ≠ "Over" := by decide +kernel
  exact this c h
theorem ra_all : ∀ c : CS, canRS c = true → ∀ {X : Cx} {N : List Str} {sc : Scope} {E : XK} (G : GoodS X N sc F k) (tk : Takes X (fun cls d _ H => E cls d H)), (∀ {st : Stmt}, isS N sc c st = true → RaSt X E F c st) ∧ (∀ {sts : List Stmt}, isSs N sc c sts = true → RaSs X E F c sts) := by
  intro c
  induction c with
  | skip => intro _ X N sc E G tk; exact ⟨fun {_} _ => fun env s σ H ρ D re rs hp => hp.elim, fun {_} _ => fun env s σ H ρ D re rs hp => hp.elim⟩
  | retN => intro _ X N sc E G tk; exact ⟨fun {_} _ => fun env s σ H ρ D re rs hp => hp.elim, fun {_} _ => fun env s σ H ρ D re rs hp => hp.elim⟩
  | pass => intro _ X N sc E G tk; exact ⟨fun {_} _ => fun env s σ H ρ D re rs hp => hp.elim, fun {_} _ => fun env s σ H ρ D re rs hp => hp.elim⟩
  | brk => intro _ X N sc E G tk; exact ⟨fun {_} _ => fun env s σ H ρ D re rs hp => hp.elim, fun {_} _ => fun env s σ H ρ D re rs hp => hp.elim⟩
  | cont => intro _ X N sc E G tk; exact ⟨fun {_} _ => fun env s σ H ρ D re rs hp => hp.elim, fun {_} _ => fun env s σ H ρ D re rs hp => hp.elim⟩
  | never => intro _ X N sc E G tk; exact ⟨fun {_} _ => fun env s σ H ρ D re rs hp => hp.elim, fun {_} _ => fun env s σ H ρ D re rs hp => hp.elim⟩
  | while_ c a _ =>
    intro _ X N sc W G tk
    exact ⟨fun {st} h env s σ H ρ D re rs hp => (hp.nx (nx_while _ _ _)).elim, fun {sts} h => by cases sts <;> cases h⟩
  | tryc i e x n j => intro z; cases z
  | seq a r iha ihr =>
    intro hc X N sc E G tk
    have hc' : (canRS a && canRS r) = true := hc
    simp only [Bool.and_eq_true] at hc'
    refine ⟨fun {_} h => (by cases h), fun {sts} h => ?_⟩
    intro env s σ H ρ D re rs hp
    cases sts with
    | nil => cases h
    | cons st sts =>
      have h : (isS N sc a st && isSs N sc r sts) = true := h
      simp only [Bool.and_eq_true] at h
      refine of_pss (pss_cons WSt.ps WSs.pss) ?_
      rcases PostX.bndX (r := evalS F a env s) hp with hp | ⟨p, s1, e1, hp⟩
      · exact (iha hc'.1 G tk).1 h.1 env s σ H ρ _ re rs hp
      · refine (sndS_all a).s G h.1 env s σ H ρ _ re rs ?_
        rw [e1]
        obtain ⟨f, env1⟩ := p
        intro σ' H' ρ' x1 g1 rs1 re1
        cases f with
        | next => exact (ihr hc'.2 G tk).2 h.2 env1 s1 σ' H' ρ' D re1 rs1 (PostX.mono hp x1 g1)
        | brk => exact hp.elim
        | cont => exact hp.elim
        | ret v => exact hp.elim
  | expr e =>
    intro hc X N sc E G tk
    refine ⟨fun {st} h => ?_, fun {sts} h => (by cases sts <;> cases h)⟩
    intro env s σ H ρ D re rs hp
    cases st with
    | Expr x p =>
      have h : (noLC x && isE N e sc x) = true := h
      simp only [Bool.and_eq_true] at h
      refine of_ps (ps_expr WE.pe (noLC_swap h.1)) ?_
      rcases PostX.bndX (r := evalE F e env s) hp with hp | ⟨v, s1, e1, hp⟩
      · exact (rx_all e hc G.toGood tk).1 h.2 env s σ H ρ _ re rs hp
      · exact hp.elim
    | _ => cases h
  | ret e =>
    intro hc X N sc E G tk
    refine ⟨fun {st} h => ?_, fun {sts} h => (by cases sts <;> cases h)⟩
    intro env s σ H ρ D re rs hp
    cases st with
    | Return x p =>
      cases x with
      | none => cases h
      | some x =>
        have h : isE N e sc x = true := h
        refine of_ps (ps_ret WE.pe) ?_
        rcases PostX.bndX (r := evalE F e env s) hp with hp | ⟨v, s1, e1, hp⟩
        · exact (rx_all e hc G.toGood tk).1 h env s σ H ρ _ re rs hp
        · exact hp.elim
    | _ => cases h
  | set i e =>
    intro hc X N sc E G tk
    refine ⟨fun {st} h => ?_, fun {sts} h => (by cases sts <;> cases h)⟩
    intro env s σ H ρ D re rs hp
    unfold isS at h
    split at h
    · rename_i y py x pos
      simp only [Bool.and_eq_true, decide_eq_true_eq] at h
      obtain ⟨h1, h2, h3⟩ := h
      have hN : X.N.Nodup := by rw [G.hN]; exact G.nd
      have hi : X.N[i]? = some y := by rw [G.hN]; exact h1
      rcases PostX.bndX (r := evalE F e env s) hp with hp | ⟨v, s1, e1, hp⟩
      · by_cases hx : noLC x = true
        · exact of_ps (ps_set hN hi (G.loc h2) WE.pe (noLC_swap hx) (G.hf y)) ((rx_all e hc G.toGood tk).1 h3 env s σ H ρ _ re rs hp)
        · exfalso
          cases e with
          | comp kd ci src cond elt => exact hp.nx (nx_E _ rfl env s)
          | _ =>
            apply hx
            cases x <;> first | rfl | cases h3
      · exact hp.elim
    · cases h
  | tset is e =>
    intro hc X N sc E G tk
    have no : ∀ env s, NX (evalS F (.tset is e) env s) := fun env s => nx_bind fun _ _ => by ((repeat' split) <;> first | exact nx_ok | exact nx_stuck | exact nx_need nx_ok | exact nx_need nx_stuck)
    exact ⟨fun {_} _ => fun env s σ H ρ D re rs hp => (hp.nx (no env s)).elim, fun {_} _ => fun env s σ H ρ D re rs hp => (hp.nx (no env s)).elim⟩
  | tpar i j e =>
    intro hc X N sc E G tk
    have no : ∀ env s, NX (evalS F (.tpar i j e) env s) := fun env s => nx_bind fun _ _ => by ((repeat' split) <;> first | exact nx_ok | exact nx_stuck | exact nx_need nx_ok | exact nx_need nx_stuck)
    exact ⟨fun {_} _ => fun env s σ H ρ D re rs hp => (hp.nx (no env s)).elim, fun {_} _ => fun env s σ H ρ D re rs hp => (hp.nx (no env s)).elim⟩
  | sub o i e =>
    intro hc X N sc E G tk
    have no : ∀ env s, NX (evalS F (.sub o i e) env s) := fun env s => nx_bind fun _ _ => nx_bind fun _ _ => nx_bind fun _ _ => nx_bind fun _ _ => nx_ok
    exact ⟨fun {_} _ => fun env s σ H ρ D re rs hp => (hp.nx (no env s)).elim, fun {_} _ => fun env s σ H ρ D re rs hp => (hp.nx (no env s)).elim⟩
  | if_ c a b iha ihb =>
    intro hc X N sc E G tk
    have hc' : (canRS a && canRS b) = true := hc
    simp only [Bool.and_eq_true] at hc'
    refine ⟨fun {st} h => ?_, fun {sts} h => (by cases sts <;> cases h)⟩
    intro env s σ H ρ D re rs hp
    cases st with
    | If x as bs p =>
      have h : (isE N c sc x && (isSs N sc a as && isSs N sc b bs)) = true := h
      simp only [Bool.and_eq_true] at h
      obtain ⟨v, s1, e1, hp1⟩ := PostX.bnd (r := evalE F c env s) hp
      obtain ⟨t, s2, e2, hp2⟩ := PostX.bnd (r := testV v s1) hp1
      obtain ⟨e3, e4⟩ := testV_eq e2
      rw [e4] at hp2
      refine of_ps (ps_if WT.pt WSs.pss WSs.pss) (st_use ((snd_all c).t G.toGood h.1) re rs e1 e3 fun H1 ρ1 x1 g1 rs1 re1 => ?_)
      cases t with
      | true => exact (iha hc'.1 G tk).2 h.2.1 env s1 σ H1 ρ1 D re1 rs1 (PostX.mono hp2 x1 g1)
      | false => exact (ihb hc'.2 G tk).2 h.2.2 env s1 σ H1 ρ1 D re1 rs1 (PostX.mono hp2 x1 g1)
    | _ => cases h
  | for_ kd is src a ih =>
    intro hc X N sc E G tk
    have hc : canRS a = true := hc
    refine ⟨fun {st} h => ?_, fun {sts} h => (by cases sts <;> cases h)⟩
    intro env s σ H ρ D re rs hp
    cases st with
    | For tg it as os p =>
      cases os with
      | cons _ _ => cases h
      | nil =>
        have h : (isTgt N sc is tg && (plainX it && (isSrc N kd src sc it && isSs N sc a as))) = true := h
        simp only [Bool.and_eq_true] at h
        obtain ⟨h1, h2, h3, h4⟩ := h
        obtain ⟨g, pg, gq⟩ := tgt_ok G h1
        obtain ⟨v, s1, e1, hp⟩ := PostX.bnd (r := evalE F src env s) hp
        cases e2 : srcItems kd v s1 with
        | none => rw [e2] at hp; exact hp.elim
        | some xs =>
          rw [e2] at hp
          refine of_ps (ps_for G.pass G.calm WI.pi pg WSs.pss (plain_fold h2)) ?_
          refine src_use G.toGood (snd_all src) h3 re rs e1 e2 fun J H1 ρ1 x1 g1 rs1 re1 jok => ?_
          have hp1 : PostX X.K ρ1 H1 (forLoop is (stays kd v xs) (fun env s => evalS F a env s) xs env s1) E := PostX.mono hp x1 g1
          clear hp
          refine ⟨fun j m σ Hc => m = xs.length - j ∧ j ≤ xs.length ∧ ∃ env st' ρ', Ex ρ1 ρ' ∧ Gr X.K H1 Hc ∧ RS X.K ρ' Hc st' ∧ RE X.K ρ' Hc env σ ∧ PostX X.K ρ' Hc (forLoop is (stays kd v xs) (fun env s => evalS F a env s) (xs.drop j) env st') E,
            ⟨xs.length, by simp, Nat.zero_le _, env, s1, ρ1, Ex.refl, Gr.refl, rs1, re1, hp1⟩, ?_⟩
          rintro j m σ Hc ⟨rfl, hj, env, st', ρ', x2, g2, rs2, re2, hp2⟩
          by_cases hlt : j < xs.length
          · obtain ⟨z, hz⟩ : ∃ z, xs[j]? = some z := ⟨_, List.getElem?_eq_getElem hlt⟩
            have hdr : xs.drop j = z :: xs.drop (j + 1) := by
              rw [List.drop_eq_getElem_cons hlt]
              rw [List.getElem?_eq_getElem hlt] at hz
              cases hz; rfl
            rw [hdr] at hp2
            unfold forLoop at hp2
            split at hp2
            · rename_i hst
              obtain ⟨j1, j2, _⟩ := jok ρ' Hc st' x2 g2 rs2 hst j
              refine .inr ⟨j1 hlt, fun σ Hc => ∃ env st' ρ', Ex ρ1 ρ' ∧ Gr X.K H1 Hc ∧ RS X.K ρ' Hc st' ∧ RE X.K ρ' Hc env σ ∧ PostX X.K ρ' Hc (forLoop is (stays kd v xs) (fun env s => evalS F a env s) (xs.drop (j + 1)) env st') E, fun σ' H' nx => ⟨xs.length - (j + 1), by omega, rfl, hlt, nx⟩, fun x H' yl => ?_⟩
              obtain ⟨eH, rvx⟩ := j2 x H' z hz yl
              subst eH
              cases eb : bindTo is z env with
              | none => rw [eb] at hp2; exact hp2.elim
              | some env1 =>
                rw [eb] at hp2
                refine gq z x env env1 σ _ ρ' _ eb rvx re2 fun σ' re3 => ?_
                rcases PostX.bndX (r := evalS F a env1 st') hp2 with hp3 | ⟨p, s6, e6, hp3⟩
                · exact (ih hc G tk).2 h4 env1 st' σ' H' ρ' _ re3 rs2 hp3
                · refine (sndS_all a).ss G h4 env1 st' σ' H' ρ' _ re3 rs2 ?_
                  rw [e6]
                  obtain ⟨f, env2⟩ := p
                  intro σ2 H2 ρ2 x3 g3 rs3 re4
                  cases f with
                  | next => exact ⟨env2, s6, ρ2, x2.trans x3, g2.trans g3, rs3, re4, PostX.mono hp3 x3 g3⟩
                  | cont => exact ⟨env2, s6, ρ2, x2.trans x3, g2.trans g3, rs3, re4, PostX.mono hp3 x3 g3⟩
                  | brk => exact hp3.elim
                  | ret v => exact hp3.elim
            · exact hp2.elim
          · have ej : j = xs.length := by omega
            subst ej
            rw [List.drop_length] at hp2
            unfold forLoop at hp2
            split at hp2 <;> exact hp2.elim
    | _ => cases h
  | raise0 c =>
    intro hc X N sc E G tk
    refine ⟨fun {st} h => ?_, fun {sts} h => (by cases sts <;> cases h)⟩
    intro env s σ H ρ D re rs hp
    unfold isS at h
    split at h
    · rename_i x p m jj p2 q pos
      simp only [Bool.and_eq_true, decide_eq_true_eq] at h
      obtain ⟨h1, h2⟩ := h
      subst h1
      have hp : PostX X.K ρ H (if x ∈ exc0 ∧ F.fuel % 2 = 1 then (Res.exc x .none s : Res (Flow × Env)) else .stuck) E := hp
      split at hp
      · rename_i hx
        have O := G.exc hx.2
        obtain ⟨m1, m2, m3, m4⟩ := O.mke x hx.1
        have hn := exc0_ndb hx.1
        refine of_ps (ps_raise G.calm tk (pmk_own PySem.F.excBase_ValueError m1 (O.gl x (.inr (.inr hx.1))) m2 (raises_own m3 m4) (G.glo h2) hn.1)) ?_
        refine hp _ none H ρ Ex.refl Gr.refl rs ⟨cA X.K x, O.ns x (.inr hx.1), rfl, ?_, .inr hx.1⟩
        have : excFs x .none = [] := by unfold excFs; rw [if_neg hn.2]
        rw [this]
        rfl
      · exact hp.elim
    · cases h
  | raise1 c e =>
    intro hc X N sc E G tk
    refine ⟨fun {st} h => ?_, fun {sts} h => (by cases sts <;> cases h)⟩
    intro env s σ H ρ D re rs hp
    unfold isS at h
    split at h
    · rename_i x p y q pos
      simp only [Bool.and_eq_true, decide_eq_true_eq] at h
      obtain ⟨h1, h0, h2, h3, h4⟩ := h
      subst h0
      subst h1
      have hp : PostX X.K ρ H (if ("Over" : Str) = "Over" ∧ F.fuel % 2 = 1 then ((evalE F e env s).bind fun v s1 => (Res.exc "Over" v s1 : Res (Flow × Env))) else .stuck) E := hp
      split at hp
      · rename_i hx
        have O := G.exc hx.2
        obtain ⟨fI, T⟩ := O.over
        obtain ⟨v, s1, e1, hp⟩ := PostX.bnd (r := evalE F e env s) hp
        refine of_ps (ps_raiseOver G.calm T G.room tk (pa_cons WE.pe pa_nil (plain_star h3)) (G.glo h2) (plain_star h3) rfl) ?_
        refine se_use ((snd_all e).e G.toGood h4) re rs e1 fun V H1 ρ1 x1 g1 rs1 re1 rv1 => ⟨V, rfl, fun d hd => ?_⟩
        have gn : Gr X.K H1 (upd H1 d (.xd [(("at" : Str), V)])) := Gr.new hd
        refine hp _ (some d) _ ρ1 x1 (g1.trans gn) (rs1.other hd) ⟨cA X.K "Over", O.ns "Over" (.inl rfl), rfl, ?_, .inl rfl⟩
        have : excFs "Over" v = [(("at" : Str), v)] := by unfold excFs; rw [if_pos rfl]
        rw [this]
        exact ⟨d, V, rfl, by rw [upd_same], RV.mono Ex.refl gn _ _ rv1⟩
      · exact hp.elim
    · cases h
end


/-! ### the table of defs -/
structure DefOk (K : PySem.W.Frag) (mg : Str → Option Value) (f : Str) (d : Def) (a : Addr) (fd : FuncData) : Prop where
  ex : ∃ (qual : Str) (params : Arguments) (body : List Stmt) (scope : Scope), FunD K f qual params body scope [] [] a fd ∧ FnScope d.names (d.names.take d.params) scope ∧ isSs d.names scope d.body body = true
  mgf : mg f = some (.ref a)
  kp : PySem.W.keepIn K (.ref a) = true
  binds : Binds K fd (d.names.take d.params) []
  fit : d.params ≤ d.names.length
section
variable {P : Program} {w : World} {K : PySem.W.Frag} {mg : Str → Option Value} {base : Heap} {T : Tab} {gl : Str → Option Val} {W : Nat}
theorem fns_ok (hT : ∀ f d, T.lookup f = some d → ∃ a fd, DefOk K mg f d a fd) (hgl : ∀ x v, gl x = some v → ∃ (u : V) (w : Value), mg x = some w ∧ RelV u w ∧ ∀ ρ H, RV K ρ H v u) (hfree : ∀ x ∈ freeNames, mg x = none) (hex : W % 2 = 1 → ExOk K mg) :
    ∀ (n : Nat) (f : Str) (d : Def) (a : Addr) (fd : FuncData), T.lookup f = some d → DefOk K mg f d a fd → FnOk P w K mg base (L2.CX P w) n a fd (d.names.take d.params) (spOf K ⟨callN T gl W n, gl, W, hasN T n⟩ f) := by
  intro n
  induction n with
  | zero =>
    intro f d a fd e D
    have no : ∀ vs H Q E, ¬ spOf K ⟨callN T gl W 0, gl, W, hasN T 0⟩ f vs H Q E := fun vs H Q E ⟨args, st, ρ, _, _, h⟩ => by
      rcases h with h | h <;> exact h.elim
    exact ⟨fun vs H Q E h => absurd h (no vs H Q E), fun A outer s H args us vs Q E _ _ _ _ h => absurd h (no vs H Q E)⟩
  | succ n ih =>
    intro f d a fd e D
    obtain ⟨qual, params, body, scope, hF, hS, hB⟩ := D.ex
    have run : ∀ args st, callN T gl W (n + 1) f args st = fin (canB T f) (runBody ⟨callN T gl W n, gl, W, hasN T n⟩ d args st) := fun args st => by
      show (match T.lookup f with | some d => fin (canB T f) (runBody ⟨callN T gl W n, gl, W, hasN T n⟩ d args st) | none => .stuck) = _
      rw [e]
    have can : canB T f = true → canRS d.body = true := fun h => by
      unfold canB at h
      rw [e] at h
      exact h
    have both : ∀ {args st ρ H Q E}, (PostV K ρ H (callN T gl W (n + 1) f args st) Q ∨ PostX K ρ H (callN T gl W (n + 1) f args st) E) → PostV K ρ H (runBody ⟨callN T gl W n, gl, W, hasN T n⟩ d args st) Q ∨ (PostX K ρ H (runBody ⟨callN T gl W n, gl, W, hasN T n⟩ d args st) E ∧ canRS d.body = true) := fun {args st ρ H Q E} h => by
      rw [run] at h
      cases q : runBody ⟨callN T gl W n, gl, W, hasN T n⟩ d args st with
      | ok v s1 =>
        rw [q] at h
        rcases h with h | h
        · exact .inl h
        · exact h.elim
      | exc c v s1 =>
        rw [q] at h
        unfold fin at h
        simp only at h
        split at h
        · rename_i hb
          rcases h with h | h
          · exact h.elim
          · exact .inr ⟨h, can hb⟩
        · rcases h with h | h <;> exact h.elim
      | stuck =>
        rw [q] at h
        rcases h with h | h <;> exact h.elim
    refine hF.ok (CX := L2.CX P w) hS (fun vs H Q E h => ?_) (fun cdv A outer s H vs Q E hr h => ?_)
    · obtain ⟨args, st, ρ, h1, h2, h3⟩ := h
      have hl : args.length = d.params := by
        rcases both h3 with h3 | ⟨h3, _⟩
        · unfold runBody at h3
          split at h3
          · assumption
          · exact h3.elim
        · unfold runBody at h3
          split at h3
          · assumption
          · exact h3.elim
      rw [List.length_take, ← h1.length, hl]
      have := D.fit
      omega
    · obtain ⟨args, st, ρ, h1, h2, h3⟩ := h
      have G : GoodS (cxOf (L2.CX P w) P w K mg base d.names qual scope a cdv A outer s H E) d.names scope ⟨callN T gl W n, gl, W, hasN T n⟩ n := by
        refine ⟨⟨rfl, rfl, hS.nd, rfl, hr, passes_of (K := fun e s'' => L2.CX P w outer H s E e s'') rfl, fun g hg => ?_, hex, hgl, hfree⟩, rfl, hS.kind, rfl, rfl, rfl⟩
        have : ∃ d', T.lookup g = some d' := by
          rcases hg with ⟨args', st', hg⟩ | hg
          case inr =>
            have hg : (decide (n ≠ 0) && (T.lookup g).isSome) = true := hg
            rw [Bool.and_eq_true] at hg
            exact Option.isSome_iff_exists.mp hg.2
          cases n with
          | zero => exact absurd rfl hg
          | succ n =>
            cases q : T.lookup g with
            | none =>
              exfalso
              apply hg
              show (match T.lookup g with | some d => fin (canB T g) (runBody ⟨callN T gl W n, gl, W, hasN T n⟩ d args' st') | none => .stuck) = _
              rw [q]
            | some d' => exact ⟨d', rfl⟩
        obtain ⟨d', hd'⟩ := this
        obtain ⟨a', fd', D'⟩ := hT g d' hd'
        exact ⟨a', fd', _, D'.mgf, D'.kp, D'.binds, ih g d' a' fd' hd' D'⟩
      refine ⟨WSs _ body, WSs.pss, ?_⟩
      rcases both h3 with h3 | ⟨h3, hcan⟩
      · unfold runBody at h3
        split at h3
        · rename_i hl
          refine (sndS_all d.body).ss G hB (args.map some ++ List.replicate (d.names.length - args.length) none) st (start d.names vs) H ρ _ (RE.start d.names h1) h2 ?_
          obtain ⟨p, s1, e1, h4⟩ := PostV.bndX h3
          rw [e1]
          obtain ⟨fl, env1⟩ := p
          intro σ' H' ρ' x1 g1 rs1 re1
          cases fl with
          | next => exact h4 _ H' ρ' x1 g1 rs1 .none
          | ret v => exact fun V rv => h4 V H' ρ' x1 g1 rs1 rv
          | brk => exact h4.elim
          | cont => exact h4.elim
        · exact h3.elim
      · unfold runBody at h3
        split at h3
        · rename_i hl
          have tk : Takes (cxOf (L2.CX P w) P w K mg base d.names qual scope a cdv A outer s H E) (fun cls d _ H => E cls d H) := takes_of rfl rfl rfl rfl
          refine (ra_all d.body hcan G tk).2 hB (args.map some ++ List.replicate (d.names.length - args.length) none) st (start d.names vs) H ρ _ (RE.start d.names h1) h2 ?_
          rcases PostX.bndX h3 with h4 | ⟨p, s1, e1, h4⟩
          · exact h4
          · exfalso
            cases q : p.1 with
            | next => rw [q] at h4; exact h4.elim
            | ret v => rw [q] at h4; exact h4.elim
            | brk => rw [q] at h4; exact h4.elim
            | cont => rw [q] at h4; exact h4.elim
        · exact h3.elim
end

/-- every def of a table stands in the text -/
inductive AllD (K : PySem.W.Frag) (mg : Str → Option Value) : Tab → Prop
  | nil : AllD K mg []
  | cons {f : Str} {d : Def} {T : Tab} : (∃ a fd, DefOk K mg f d a fd) → AllD K mg T → AllD K mg ((f, d) :: T)
theorem AllD.at_ {K : PySem.W.Frag} {mg : Str → Option Value} : ∀ {T : Tab} {f : Str} {d : Def}, AllD K mg T → T.lookup f = some d → ∃ a fd, DefOk K mg f d a fd
  | _, f, d, .nil, e => by cases e
  | _, f, d, .cons (f := g) (d := d') (T := T) h t, e => by
    rw [List.lookup_cons] at e
    cases q : f == g with
    | true =>
      rw [q] at e
      cases e
      rw [beq_iff_eq.mp q]
      exact h
    | false =>
      rw [q] at e
      exact t.at_ e
/-- every constant of the module -/
inductive AllG (K : PySem.W.Frag) (mg : Str → Option Value) : List (Str × Val) → Prop
  | nil : AllG K mg []
  | cons {x : Str} {v : Val} {T : List (Str × Val)} : (∃ (u : V) (w : Value), mg x = some w ∧ RelV u w ∧ ∀ ρ H, RV K ρ H v u) → AllG K mg T → AllG K mg ((x, v) :: T)
theorem AllG.at_ {K : PySem.W.Frag} {mg : Str → Option Value} : ∀ {T : List (Str × Val)} {x : Str} {v : Val}, AllG K mg T → T.lookup x = some v → ∃ (u : V) (w : Value), mg x = some w ∧ RelV u w ∧ ∀ ρ H, RV K ρ H v u
  | _, f, d, .nil, e => by cases e
  | _, f, d, .cons (x := g) (T := T) h t, e => by
    rw [List.lookup_cons] at e
    cases q : f == g with
    | true =>
      rw [q] at e
      cases e
      rw [beq_iff_eq.mp q]
      exact h
    | false =>
      rw [q] at e
      exact t.at_ e

/-! ### the law -/
theorem law_sp {K : PySem.W.Frag} {F : Fns} {f : Str} {H : Hp} {a : Addr} {ns : List Int} (hO : Only H) (hS : SqL K H a (ns.map V.int)) (h : ∃ s', F.fn f [.ref 0] [.ro (ns.map Val.int)] = .ok (.bool true) s') :
    spOf K F f [.ref a] H (fun v _ => v = .bl true) fun _ _ _ => False := by
  obtain ⟨s', h⟩ := h
  refine ⟨[.ref 0], [.ro (ns.map Val.int)], [a], .cons (.ref rfl) .nil, ⟨rfl, fun n m c d b e1 e2 m1 m2 _ _ => ?_, fun n c b e1 e2 => ?_⟩, ?_⟩
  · cases n with
    | zero => cases e1; cases m1
    | succ n => simp at e1
  · cases n with
    | zero =>
      cases e1
      cases e2
      refine ⟨ns.map V.int, ?_, RVs.of_ints ns⟩
      rcases hS with (hS | ⟨o, hS⟩) | hS
      · rcases hO a with z | ⟨o, xs, z⟩
        · rw [z] at hS; cases hS
        · rw [z] at hS; cases hS
      · exact .inl ⟨o, hS⟩
      · exact .inr hS
    | succ n => simp at e1
  · left
    rw [h]
    intro V H' ρ' _ _ _ rv
    cases rv
    rfl

/-- a tuple of the top, of flat things -/
theorem glob_tup {K : PySem.W.Frag} {h : Heap} {mg : Str → Option Value} (X : K.In h) (G : h.Ns mainGlobals mg) {x : Str} {vs : List He.Dv} {xs : List Val} (c : (He.Fa.glo x).ok K = true) (t : He.tupB K x vs = true) (hv : ∀ ρ H, RVs K ρ H xs (vs.map (He.Dv.v K))) :
    ∃ (u : V) (w : Value), mg x = some w ∧ RelV u w ∧ ∀ ρ H, RV K ρ H (.tup xs) u :=
  ⟨.ref (He.ga K x), _, He.glo_ok X G c, rfl, fun ρ H => .tup (He.tupB_ok t H) (hv ρ H)⟩
theorem glob_int {K : PySem.W.Frag} {h : Heap} {mg : Str → Option Value} (X : K.In h) (G : h.Ns mainGlobals mg) {x : Str} {i : Int} (c : (He.Fa.int x i).ok K = true) :
    ∃ (u : V) (w : Value), mg x = some w ∧ RelV u w ∧ ∀ ρ H, RV K ρ H (.int i) u := by
  obtain ⟨t, e⟩ := He.int_ok X G c
  exact ⟨.int i, _, e, ⟨t, rfl⟩, fun ρ H => .int i⟩
/-- a def by the head's facts -/
theorem defOk_fd {K : PySem.W.Frag} {h : Heap} {mg : Str → Option Value} (X : K.In h) (G : h.Ns mainGlobals mg) {f : Str} {d : Def} {ps : List Str} {args : Arguments} {body : List Stmt} {scope : Scope} {fd : FuncData}
    (c : (He.Fa.glo f).ok K = true) (hF : FunD K f f args body scope [] [] (He.ga K f) fd) (hp : d.names.take d.params = ps) (hl : d.params ≤ d.names.length) (hS : FnScope d.names ps scope) (hB : isSs d.names scope d.body body = true)
    (hb : ∀ (kV doc pm : Value) (an : Option Addr) (cdv ct : Value) (us : List Value), us.length = ps.length → bindArgs (PySem.W.fnOf f f args body scope .none kV doc pm an cdv ct) ⟨us, []⟩ = pure (ps.zip us)) : DefOk K mg f d (He.ga K f) fd := by
  subst hp
  exact ⟨⟨f, args, body, scope, hF, hS, hB⟩, He.glo_ok X G c, hF.kp, hF.bindsN hb, hl⟩
theorem defOk_of {K : PySem.W.Frag} {h : Heap} {mg : Str → Option Value} (X : K.In h) (G : h.Ns mainGlobals mg) {f : Str} {d : Def} {ps : List Str} {args : Arguments} {body : List Stmt} {scope : Scope}
    (c : (He.Fa.glo f).ok K = true) (hd : ∃ fd, FunD K f f args body scope [] [] (He.ga K f) fd) (hp : d.names.take d.params = ps) (hl : d.params ≤ d.names.length) (hS : FnScope d.names ps scope) (hB : isSs d.names scope d.body body = true)
    (hb : ∀ (kV doc pm : Value) (an : Option Addr) (cdv ct : Value) (us : List Value), us.length = ps.length → bindArgs (PySem.W.fnOf f f args body scope .none kV doc pm an cdv ct) ⟨us, []⟩ = pure (ps.zip us)) : ∃ a fd, DefOk K mg f d a fd := by
  obtain ⟨fd, hF⟩ := hd
  subst hp
  exact ⟨_, fd, ⟨f, args, body, scope, hF, hS, hB⟩, He.glo_ok X G c, hF.kp, hF.bindsN hb, hl⟩
end Ev

set_option Elab.async false
set_option linter.all false
set_option maxRecDepth 100000
set_option maxHeartbeats 4000000
/-! ## The errors' classes by the head's look -/
namespace Ev
open PySem PySem.Spec PyProof.Rows L2
def ba2 {a b : Bool} (h : (a && b) = true) : a = true ∧ b = true := Bool.and_eq_true_iff.mp h
theorem excCB_ok {K : PySem.W.Frag} {D : Addr} (h : excCB K D = true) : ExcC K D := by
  obtain ⟨h1, h⟩ := ba2 h
  obtain ⟨h2, h⟩ := ba2 h
  obtain ⟨h3, h⟩ := ba2 h
  obtain ⟨h4, h⟩ := ba2 h
  obtain ⟨h5, h⟩ := ba2 h
  obtain ⟨h6, h⟩ := ba2 h
  obtain ⟨h7, h8⟩ := ba2 h
  exact ⟨of_decide_eq_true h1, of_decide_eq_true h2, of_decide_eq_true h3, h4, of_decide_eq_true h5, of_decide_eq_true h6, of_decide_eq_true h7, of_decide_eq_true h8⟩
/-- all that is looked at -/
theorem all_at {p : Str → Bool} {l : List Str} (h : l.all p = true) {c : Str} (m : c ∈ l) : p c = true := List.all_eq_true.mp h c m
theorem exAll_ok {K : PySem.W.Frag} {h : Heap} {mg : Str → Option Value} (X : K.In h) (G : h.Ns mainGlobals mg) (e : exAllB K = true) (ve : mg "ValueError" = none)
    {p1 p2 q1 q2 q3 q4 : Pos} {fd : FuncData} (F : FunD K "__init__" "Over.__init__" (PySem.OverX.iA p1 p2) (PySem.OverX.iB q1 q2 q3 q4) PySem.OverX.iS [] [] (initA K) fd) : ExOk K mg := by
  obtain ⟨e1, e⟩ := ba2 e
  obtain ⟨e2, e⟩ := ba2 e
  obtain ⟨e3, e4⟩ := ba2 e
  have mem : ∀ c : Str, (c = "Over" ∨ c ∈ exc0) → c ∈ (("Over" : Str) :: exc0) := fun c m => by
    rcases m with m | m
    · rw [m]; exact List.mem_cons_self
    · exact List.mem_cons_of_mem _ m
  have cl : ∀ c : Str, (c = "Over" ∨ c ∈ exc0) → clsB K c = true := fun c m => all_at e2 (mem c m)
  have ns : ∀ c : Str, (c = "Over" ∨ c ∈ exc0) → PySem.W.nsIn K mainGlobals c = some (some (.ref (cA K c))) := fun c m => of_decide_eq_true (ba2 (cl c m)).1
  have ec := fun c m => excCB_ok (ba2 (ba2 (cl c m)).2).1
  refine
    { ns := ns
      gl := fun c m => ?_
      ve := ve
      isC := ec
      exm := fun c m => of_decide_eq_true (ba2 (ba2 (ba2 (cl c m)).2).2).1
      kit := fun c c' m m' => ?_
      kitV := fun c m => of_decide_eq_true (ba2 (ba2 (ba2 (ba2 (cl c m)).2).2).2).2
      mke := fun c m => ?_
      over := ?_ }
  · rcases m with m | m
    · rw [m]
      exact PySem.W.mg_of X G (of_decide_eq_true e1)
    · exact PySem.W.mg_of X G (ns c m)
  · have a := (ba2 (ba2 (ba2 (ba2 (cl c m)).2).2).2).1
    refine of_decide_eq_true (List.all_eq_true.mp a c' ?_)
    rcases m' with m' | m' | m'
    · rw [m']; exact List.mem_cons_self
    · rw [m']; exact List.mem_cons_of_mem _ List.mem_cons_self
    · exact List.mem_cons_of_mem _ (List.mem_cons_of_mem _ m')
  · have a := all_at e3 m
    exact ⟨(ba2 a).1, (ba2 (ba2 a).2).1, of_decide_eq_true (ba2 (ba2 (ba2 a).2).2).1, of_decide_eq_true (ba2 (ba2 (ba2 a).2).2).2⟩
  · obtain ⟨o1, o⟩ := ba2 e4
    obtain ⟨o2, o⟩ := ba2 o
    obtain ⟨o3, o⟩ := ba2 o
    obtain ⟨o4, o⟩ := ba2 o
    obtain ⟨o5, o⟩ := ba2 o
    obtain ⟨o6, o⟩ := ba2 o
    obtain ⟨o7, o8⟩ := ba2 o
    have E := ec "Over" (.inl rfl)
    refine ⟨initA K,
      { gC := PySem.W.mg_of X G (ns "Over" (.inl rfl))
        cls := ?_
        sa := of_decide_eq_true o2
        ga := E.hg
        gg := E.hk
        noN := of_decide_eq_true o3
        iC := of_decide_eq_true o4
        tC := of_decide_eq_true o5
        kC := o6
        exC := E.hs
        tyC := of_decide_eq_true o7
        hdC := E.hd
        te := of_decide_eq_true o8
        fn := ?_ }⟩
    · unfold oclsB at o1
      split at o1
      · rename_i dd cd sl ho
        split at o1
        · rename_i C' bm k0 k1 k2 k3 n k5 hm hs
          simp only [Bool.and_eq_true, decide_eq_true_eq, Bool.not_eq_true'] at o1
          obtain ⟨rfl, rfl, hdel, hok, hdct⟩ := o1
          obtain ⟨nm, bs, mro, nsA, qn, hd, sn, sub, ab, col, del⟩ := cd
          dsimp only at hm hdel hdct
          subst hm hdel hdct
          have hsl : sl = #[k0, k1, k2, k3, some (.builtin "ValueError.__new__"), k5] := by
            obtain ⟨l⟩ := sl
            simp only at hs
            rw [hs]
          subst hsl
          exact ⟨nm, qn, nsA, bs, bm, sn, sub, ab, col, dd, k0, k1, k2, k3, k5, ho, hok⟩
        · cases o1
      · cases o1
    · obtain ⟨oc, od, dV, kV, doc, pm, an, cdv, ct, osl, rfl, lk, hcd, hd, hk⟩ := F.ex
      rcases hd with ⟨_, rfl⟩ | ⟨z, _⟩
      · exact ⟨oc, od, kV, doc, pm, an, cdv, ct, osl, p1, p2, q1, q2, q3, q4, lk, hcd⟩
      · exact absurd rfl z
/-- a def that nothing leaves, by a promise without an error -/
theorem fn_calm {P : Program} {w : World} {K : PySem.W.Frag} {mg : Str → Option Value} {base : Heap} {k : Nat} {f : Addr} {fd : FuncData} {ps : List Str} {sp : Sp} (F : FnOk P w K mg base (L2.CX P w) k f fd ps sp) : FnOk P w K mg base CX0 k f fd ps (fun vs H Q _ => sp vs H Q fun _ _ _ => False) :=
  ⟨fun vs H Q E h => F.len vs H Q _ h, fun A outer s H args us vs Q E hr he hb hv hs => codeAny_mono (F.run A outer s H args us vs Q _ hr he hb hv hs) fun r s' h => by
    cases r with
    | ok v => cases v <;> exact h
    | error e =>
      obtain ⟨_, _, _, _, _, _, _, _, _, _, _, _, z⟩ := h
      exact z.elim⟩
end Ev

set_option Elab.async false
set_option linter.all false
set_option maxRecDepth 100000
set_option maxHeartbeats 400000
/-! ## Plain values without a store: who owns a list may change it -/
namespace Ev
open PySem

inductive PV where
  | none
  | bool (b : Bool)
  | int (i : Int)
  | str (s : Str)
  | tup (xs : List PV)
  | lst (o : Bool) (xs : List PV)
  | dict (o : Bool) (ks : List NestedKey) (vs : List PV)
  | obj (o : Bool) (c : Str) (ns : List Str) (vs : List PV)
  | ro (xs : List PV)
  deriving Inhabited
mutual
/-- nothing in it is owned -/
def PV.noO : PV → Bool
  | .none => true
  | .bool _ => true
  | .int _ => true
  | .str _ => true
  | .tup xs => noOL xs
  | .lst o xs => !o && noOL xs
  | .dict o _ vs => !o && noOL vs
  | .obj o _ _ vs => !o && noOL vs
  | .ro xs => noOL xs
def noOL : List PV → Bool
  | [] => true
  | x :: xs => x.noO && noOL xs
end
mutual
/-- nothing in it is shared -/
def PV.noF : PV → Bool
  | .none => true
  | .bool _ => true
  | .int _ => true
  | .str _ => true
  | .tup xs => noFL xs
  | .lst o xs => o && noFL xs
  | .dict o _ vs => o && noFL vs
  | .obj o _ _ vs => o && noFL vs
  | .ro _ => false
def noFL : List PV → Bool
  | [] => true
  | x :: xs => x.noF && noFL xs
end
mutual
/-- shared from now on -/
def PV.frz : PV → PV
  | .none => .none
  | .bool b => .bool b
  | .int i => .int i
  | .str s => .str s
  | .tup xs => .tup (frzL xs)
  | .lst _ xs => .lst false (frzL xs)
  | .dict _ ks vs => .dict false ks (frzL vs)
  | .obj _ c ns vs => .obj false c ns (frzL vs)
  | .ro xs => .ro xs
def frzL : List PV → List PV
  | [] => []
  | x :: xs => x.frz :: frzL xs
end
/-- nothing within it is owned -/
def PV.kidsNoO : PV → Bool
  | .lst _ xs => noOL xs
  | .dict _ _ vs => noOL vs
  | .obj _ _ _ vs => noOL vs
  | v => v.noO
/-- a step into a value -/
inductive Stp where
  | ix (y : PV)
  | fld (f : Str)
mutual
def keyP : PV → Option NestedKey
  | .none => some .none
  | .int i => some (.num i)
  | .str s => some (.text s)
  | .tup xs => (keyPL xs).map .tup
  | _ => none
def keyPL : List PV → Option (List NestedKey)
  | [] => some []
  | x :: xs => (keyP x).bind fun k => (keyPL xs).map (k :: ·)
end
/-- a key at the top of a dict: a number, a text -/
def keyT : PV → Option NestedKey
  | .int i => some (.num i)
  | .str s => some (.text s)
  | _ => none
def nk : Sum Int Str → NestedKey
  | .inl i => .num i
  | .inr s => .text s
def dget : List NestedKey → List PV → NestedKey → Option PV
  | k :: ks, v :: vs, q => if k = q then some v else dget ks vs q
  | _, _, _ => none
def dputK : List NestedKey → NestedKey → List NestedKey
  | k :: ks, q => if k = q then k :: ks else k :: dputK ks q
  | [], q => [q]
def dputV : List NestedKey → List PV → NestedKey → PV → List PV
  | k :: ks, v :: vs, q, w => if k = q then w :: vs else v :: dputV ks vs q w
  | _, _, _, w => [w]
def fget : List Str → List PV → Str → Option PV
  | k :: ks, v :: vs, q => if k = q then some v else fget ks vs q
  | _, _, _ => none
def fput : List Str → List PV → Str → PV → List PV
  | k :: ks, v :: vs, q, w => if k = q then w :: vs else v :: fput ks vs q w
  | _, vs, _, _ => vs
def getS : Stp → PV → Option PV
  | .ix (.int i), .tup xs => L2.atI xs i
  | .ix (.int i), .lst _ xs => L2.atI xs i
  | .ix (.int i), .ro xs => L2.atI xs i
  | .ix (.int i), .str s => (L2.atI s.cps.toList i).bind fun c => if s.length ≤ sizeLine then some (.str ⟨#[c]⟩) else none
  | .ix y, .dict _ ks vs => (keyT y).bind (dget ks vs)
  | .fld f, .obj _ _ ns vs => fget ns vs f
  | _, _ => none
def setS : Stp → PV → PV → Option PV
  | .ix (.int i), .tup xs, c => (L2.ixN xs.length i).map fun j => .tup (xs.set j c)
  | .ix (.int i), .lst o xs, c => (L2.ixN xs.length i).map fun j => .lst o (xs.set j c)
  | .ix y, .dict o ks vs, c => (keyT y).bind fun k => (dget ks vs k).map fun _ => .dict o ks (dputV ks vs k c)
  | .fld f, .obj o cl ns vs, c => (fget ns vs f).map fun _ => .obj o cl ns (fput ns vs f c)
  | _, _, _ => none
def getP : List Stp → PV → Option PV
  | [], v => some v
  | s :: p, v => (getS s v).bind (getP p)
def setP : List Stp → PV → PV → Option PV
  | [], _, c => some c
  | s :: p, v, c => (getS s v).bind fun x => (setP p x c).bind fun x' => setS s v x'
def PV.ownT : PV → Bool
  | .tup _ => true
  | .lst o _ => o
  | .dict o _ _ => o
  | .obj o _ _ _ => o
  | _ => false
def ownP : List Stp → PV → Bool
  | [], _ => true
  | s :: p, v => v.ownT && (match getS s v with | some x => ownP p x | none => false)

/-! ### operations -/
def pD : Nat → PV → Option PyData
  | _, .none => some .none
  | _, .bool b => some (.bool b)
  | _, .int i => some (.int i)
  | _, .str s => some (.str s)
  | 0, .tup _ => none
  | k + 1, .tup xs => (xs.mapM (pD k)).map PyData.tuple
  | 0, .lst _ _ => none
  | k + 1, .lst _ xs => (xs.mapM (pD k)).map PyData.list
  | _, _ => none
def pscal : PV → PV → Option Bool
  | .none, .none => some true
  | .none, .int _ => some false
  | .int _, .none => some false
  | .none, .bool _ => some false
  | .bool _, .none => some false
  | .none, .str _ => some false
  | .str _, .none => some false
  | .int i, .int j => some (decide (i = j))
  | .bool a, .bool b => some (decide (a = b))
  | .str a, .str b => some (decide (a = b))
  | .int _, .str _ => some false
  | .str _, .int _ => some false
  | .bool _, .str _ => some false
  | .str _, .bool _ => some false
  | _, _ => none
def peqM (a b : PV) : Option Bool :=
  match pscal a b with
  | some r => some r
  | none => (match pD eqDeep a, pD eqDeep b with
    | some d, some e => if SeqAt.shaped d = true ∧ SeqAt.shaped e = true then some (PyData.eqv d e) else none
    | _, _ => none)
def pflat : PV → Bool
  | .none => true
  | .bool _ => true
  | .int _ => true
  | .str _ => true
  | _ => false
def pflatEq : PV → PV → Bool
  | .none, .none => true
  | .bool a, .bool b => a == b
  | .bool a, .int b => (if a then 1 else 0) == b
  | .int a, .bool b => a == (if b then 1 else 0)
  | .int a, .int b => a == b
  | .str a, .str b => a == b
  | _, _ => false
def pseq : PV → Option (List PV)
  | .tup xs => some xs
  | .lst _ xs => some xs
  | _ => none
def pinM (a b : PV) : Option Bool :=
  (pseq b).bind fun xs => if pflat a = true ∧ xs.all pflat = true then some (xs.any fun y => pflatEq y a) else none
def pcmp (op : Cop) (a b : PV) : Option PV :=
  match op with
  | .eq => (peqM a b).map PV.bool
  | .ne => (peqM a b).map fun r => .bool (!r)
  | .lt => (match a, b with | .int i, .int j => some (.bool (decide (i < j))) | _, _ => none)
  | .le => (match a, b with | .int i, .int j => some (.bool (decide (i ≤ j))) | _, _ => none)
  | .gt => (match a, b with | .int i, .int j => some (.bool (decide (j < i))) | _, _ => none)
  | .ge => (match a, b with | .int i, .int j => some (.bool (decide (j ≤ i))) | _, _ => none)
  | .isin => (pinM a b).map PV.bool
  | .notin => (pinM a b).map fun r => .bool (!r)
  | .is_ => (match b with | .none => some (.bool (match a with | .none => true | _ => false)) | _ => none)
  | .isnot => (match b with | .none => some (.bool (match a with | .none => false | _ => true)) | _ => none)
def pneed {α : Type} (p : Prop) [Decidable p] (r : α) : Option α := if p then some r else none
def pbin (op : Bop) (a b : PV) : Option PV :=
  match op, a, b with
  | .add, .int i, .int j => some (.int (i + j))
  | .add, .str x, .str y => pneed (x.length + y.length ≤ sizeLine) (.str (x ++ y))
  | .add, .tup xs, .tup ys => pneed (xs.length + ys.length ≤ sizeLine) (.tup (xs ++ ys))
  | .add, .lst _ xs, .lst _ ys => pneed (xs.length + ys.length ≤ sizeLine) (.lst true (xs ++ ys))
  | .sub, .int i, .int j => some (.int (i - j))
  | .mul, .int i, .int j => pneed ((-(2 ^ 64) < i ∧ i < 2 ^ 64) ∨ (-(2 ^ 64) < j ∧ j < 2 ^ 64)) (.int (i * j))
  | .mul, .tup xs, .int k => pneed (xs ≠ [] ∧ 2 ≤ k ∧ k ≤ 1000 ∧ xs.length ≤ 1000) (.tup (List.replicate k.toNat xs).flatten)
  | .mul, .lst _ xs, .int k => pneed (-(2 ^ 63) ≤ k ∧ k < 2 ^ 63 ∧ xs.length * k.toNat ≤ sizeLine) (.lst true (List.replicate k.toNat xs).flatten)
  | .fdiv, .int i, .int j => pneed (0 < j ∧ j < 1073741824) (.int (i / j))
  | .mod, .int i, .int j => pneed (0 < j) (.int (i % j))
  | .pow, .int i, .int j => pneed (0 ≤ j ∧ j ≤ 1000000 ∧ i.natAbs < 2 ^ 64) (.int (i ^ j.toNat))
  | _, _, _ => none
def ptruth : PV → Option Bool
  | .none => some false
  | .bool b => some b
  | .int i => some (i != 0)
  | .str s => if s.length ≤ sizeLine then some ((s.length : Int) != 0) else none
  | .tup xs => some (!xs.isEmpty)
  | .lst _ xs => some (!xs.isEmpty)
  | .ro xs => some (!xs.isEmpty)
  | _ => none
def ppart : PV → Option Int
  | .int i => some i
  | _ => none
def pslice (a : PV) (l h : Option Int) : Option PV :=
  match a with
  | .tup xs => some (.tup (cut xs l h))
  | .lst _ xs => some (.lst true (cut xs l h))
  | _ => none
def prev : PV → Option PV
  | .tup xs => some (.tup xs.reverse)
  | .lst _ xs => some (.lst true xs.reverse)
  | _ => none
def pisInst (t : Ty) : PV → Option Bool
  | .none => some false
  | .bool _ => some (decide (t = .int) || decide (t = .bool))
  | .int _ => some (decide (t = .int))
  | .str _ => some (decide (t = .str))
  | .tup _ => some (decide (t = .tuple))
  | .lst _ _ => some (decide (t = .list))
  | _ => none
def pInts : List PV → Option (List Int)
  | [] => some []
  | .int i :: r => (pInts r).map (i :: ·)
  | _ :: _ => none
def pBools : List PV → Option (List Bool)
  | [] => some []
  | .bool b :: r => (pBools r).map (b :: ·)
  | _ :: _ => none
def pbi (b : Bi) (vs : List PV) : Option PV :=
  match b, vs with
  | .len, [.tup xs] => some (.int xs.length)
  | .len, [.str s] => pneed (s.length ≤ sizeLine) (.int s.length)
  | .len, [.lst _ xs] => some (.int xs.length)
  | .len, [.ro xs] => some (.int xs.length)
  | .abs, [.int i] => some (.int (iabs i))
  | .max, [.int i, .int j] => some (.int (imax i j))
  | .min, [.int i, .int j] => some (.int (imin i j))
  | .max, [.lst _ xs] => ((pInts xs).bind maxI).map PV.int
  | .min, [.lst _ xs] => ((pInts xs).bind minI).map PV.int
  | .sum, [.lst _ xs] => (pInts xs).map fun ns => .int ns.sum
  | .all, [.lst _ xs] => (pBools xs).map fun bs => .bool (bs.all id)
  | .int, [.int i] => some (.int i)
  | .int, [.bool b] => some (.int (if b then 1 else 0))
  | .int, [.str s] => (PySem.intText? s).bind fun n => pneed (s.length ≤ 640) (.int n)
  | .list, [.tup xs] => some (.lst true xs)
  | .list, [.lst _ xs] => some (.lst true xs)
  | .tuple, [.tup xs] => some (.tup xs)
  | .tuple, [.lst _ xs] => some (.tup xs)
  | _, _ => none
/-- methods that only read -/
def pread (m : Mt) (o : PV) (vs : List PV) : Option PV :=
  match m, o, vs with
  | .count, .lst _ xs, [.int k] => (pInts xs).map fun ns => .int (ns.count k : Nat)
  | .count, .lst _ xs, [.bool k] => if xs.all pflat = true then some (.int ((xs.countP fun x => pflatEq x (.bool k)) : Nat)) else none
  | .index, .lst _ xs, [y] => if pflat y = true ∧ xs.all pflat = true then (xs.findIdx? fun x => pflatEq x y).map fun j => .int (j : Nat) else none
  | .get, .dict _ ks vs, [k, d] => (keyT k).map fun x => (dget ks vs x).getD d
  | _, _, _ => none
/-- methods that change: the answer, the new thing -/
def pwrite (m : Mt) (o : PV) (vs : List PV) : Option (PV × PV) :=
  match m, o, vs with
  | .append, .lst true xs, [y] => pneed (xs.length < sizeLine) (.none, .lst true (xs ++ [y]))
  | .pop, .lst true xs, [] => xs.getLast?.map fun y => (y, .lst true xs.dropLast)
  | _, _, _ => none
def mtW : Mt → Bool
  | .append => true
  | .extend => true
  | .pop => true
  | .count => false
  | .index => false
  | .get => false
/-- o[i] = v -/
def psub (o i v : PV) : Option PV :=
  match o, i with
  | .lst true xs, .int k => (L2.ixN xs.length k).map fun j => .lst true (xs.set j v)
  | .dict true ks vs, i => (keyT i).bind fun k => pneed (ks.length < sizeLine) (.dict true (dputK ks k) (dputV ks vs k v))
  | _, _ => none
def pPairs : List PV → Option (List (NestedKey × PV))
  | [] => some []
  | k :: v :: r => (keyT k).bind fun x => (pPairs r).map ((x, v) :: ·)
  | _ => none
def pMerge : List (NestedKey × PV) → List NestedKey → List PV → List NestedKey × List PV
  | [], ks, vs => (ks, vs)
  | (k, v) :: r, ks, vs => pMerge r (dputK ks k) (dputV ks vs k v)
def pItems (k : Src) (v : PV) : Option (List PV) :=
  match k, v with
  | .seq, .tup xs => some xs
  | .seq, .lst _ xs => some xs
  | .range, .tup [.int n] => if n < 2 ^ 62 ∧ -(2 ^ 62) ≤ n then some ((List.range n.toNat).map fun (j : Nat) => PV.int (j : Int)) else none
  | _, _ => none

/-! ### the evaluator -/
abbrev PEnv := List (Option PV)
inductive PR (α : Type) where
  | ok (a : α) (env : PEnv)
  | exc (c : Str) (v : PV) (env : PEnv)
  | stuck
inductive PC where
  | ok (v : PV) (outs : List PV)
  | exc (c : Str) (v : PV) (outs : List PV)
  | stuck
def PR.bind {α β : Type} (r : PR α) (f : α → PEnv → PR β) : PR β :=
  match r with
  | .ok a s => f a s
  | .exc _ _ _ => .stuck
  | .stuck => .stuck
def PR.bindX {α β : Type} (r : PR α) (f : α → PEnv → PR β) : PR β :=
  match r with
  | .ok a s => f a s
  | .exc c v s => .exc c v s
  | .stuck => .stuck
def PR.opt {α : Type} (o : Option α) (env : PEnv) : PR α :=
  match o with
  | some a => .ok a env
  | none => .stuck
structure PFns where
  fn : Str → List PV → PC
  glob : Str → Option PV
  fuel : Nat
  has : Str → Bool
  io : Str → List Bool
inductive Md where | sh | ki | bo | mv
def mvSh : Md → Md
  | .mv => .mv
  | _ => .sh
/-- a value, the place where it stands -/
structure BV where
  v : PV
  pl : Option (Nat × List Stp)
/-- a value found at a place -/
def share (r : Nat) (p : List Stp) (v : PV) (env : PEnv) : PR (List BV) :=
  match env[r]? with
  | some (some root) => (match setP p root v.frz with
    | some root' => .ok [⟨v.frz, none⟩] (env.set r (some root'))
    | none => .stuck)
  | _ => .stuck
def touch (m : Md) (r : Nat) (p : List Stp) (v : PV) (env : PEnv) : PR (List BV) :=
  if v.noO = true then .ok [⟨v, none⟩] env else
  match m with
  | .bo => .ok [⟨v, some (r, p)⟩] env
  | .ki => if v.kidsNoO = true then .ok [⟨v, some (r, p)⟩] env else share r p v env
  | .sh => share r p v env
  | .mv => (match p with
    | [] => .ok [⟨v, none⟩] (env.set r none)
    | _ => share r p v env)
def getE (env : PEnv) (r : Nat) (p : List Stp) : Option PV :=
  match env[r]? with
  | some (some root) => if ownP p root = true then getP p root else none
  | _ => none
def putE (env : PEnv) (r : Nat) (p : List Stp) (c : PV) : Option PEnv :=
  match env[r]? with
  | some (some root) => (setP p root c).map fun root' => env.set r (some root')
  | _ => none
def one {α : Type} (xs : List BV) (f : BV → PR α) : PR α :=
  match xs with
  | [x] => f x
  | _ => .stuck
/-- what it is now -/
def cur (x : BV) (env : PEnv) : Option PV :=
  match x.pl with
  | none => some x.v
  | some (r, p) => getE env r p
def curs : List BV → PEnv → Option (List PV)
  | [], _ => some []
  | x :: xs, env => (cur x env).bind fun v => (curs xs env).map (v :: ·)
/-- things that stand nowhere -/
def tvals : List BV → Option (List PV)
  | [] => some []
  | ⟨v, none⟩ :: xs => (tvals xs).map (v :: ·)
  | ⟨_, some _⟩ :: _ => none
def tone {α : Type} (xs : List BV) (f : PV → PR α) : PR α :=
  match xs with
  | [⟨v, none⟩] => f v
  | _ => .stuck
/-- nothing that stands is changed by it -/
def calm (io : Str → List Bool) : CE → Bool
  | .cons a r => calm io a && calm io r
  | .tup a => calm io a
  | .lst a => calm io a
  | .bin _ a b => calm io a && calm io b
  | .neg a => calm io a
  | .cmp _ a b => calm io a && calm io b
  | .chain _ _ a b c => calm io a && (calm io b && calm io c)
  | .and1 a => calm io a
  | .and2 a r => calm io a && calm io r
  | .or1 a => calm io a
  | .or2 a r => calm io a && calm io r
  | .not_ a => calm io a
  | .ifx c a b => calm io c && (calm io a && calm io b)
  | .ix a i => calm io a && calm io i
  | .slice a l h => calm io a && (calm io l && calm io h)
  | .rev a => calm io a
  | .call f args => calm io args && !(io f).any id
  | .bi _ a => calm io a
  | .isi _ a => calm io a
  | .meth m o a => calm io o && (calm io a && !mtW m)
  | .comp _ _ s c e => calm io s && (calm io c && calm io e)
  | .kv k v r => calm io k && (calm io v && calm io r)
  | .dict p => calm io p
  | .isx _ a => calm io a
  | .fld _ a => calm io a
  | _ => true
def okPl (x : BV) (c : Bool) : Bool :=
  match x.pl with
  | none => true
  | some (_, p) => p.isEmpty || c
/-- the things that a call may change are taken out of their slots -/
def takeIO : List Bool → List BV → PEnv → Option (List PV × PEnv)
  | true :: ms, b :: bs, env => (match b.pl with
    | none => (takeIO ms bs env).map fun r => (b.v :: r.1, r.2)
    | some (r, p) => (match p, env[r]? with
      | [], some (some v) => (takeIO ms bs (env.set r none)).map fun q => (v :: q.1, q.2)
      | _, _ => none))
  | false :: ms, _ :: bs, env => takeIO ms bs env
  | [], _, env => some ([], env)
  | _ :: _, [], _ => none
/-- the arguments: what may be changed, as it is; what is read, shared -/
def argV : List Bool → List BV → List PV → PEnv → Option (List PV)
  | true :: ms, _ :: bs, v :: vs, env => (argV ms bs vs env).map (v :: ·)
  | false :: ms, b :: bs, vs, env => (cur b env).bind fun v => (argV ms bs vs env).map (v.frz :: ·)
  | [], b :: bs, vs, env => (cur b env).bind fun v => (argV [] bs vs env).map (v.frz :: ·)
  | [], [], _, _ => some []
  | _, _, _, _ => none
def roSlot : List Bool → List BV → Nat → Bool
  | true :: ms, _ :: bs, n => roSlot ms bs n
  | false :: ms, b :: bs, n => (match b.pl with | some (r, _) => decide (n = r) | none => false) || roSlot ms bs n
  | [], b :: bs, n => (match b.pl with | some (r, _) => decide (n = r) | none => false) || roSlot [] bs n
  | _, [], _ => false
/-- what came of the things that were changed -/
def putOuts : List Bool → List BV → List PV → PEnv → Option PEnv
  | true :: ms, b :: bs, o :: os, env => (match b.pl with
    | some (r, _) => putOuts ms bs os (env.set r (some o))
    | none => putOuts ms bs os env)
  | false :: ms, _ :: bs, os, env => putOuts ms bs os env
  | [], _, [], env => some env
  | _, _, _, _ => none
/-- what was read may be held now -/
def frzWhere (q : Nat → Bool) : PEnv → PEnv
  | [] => []
  | x :: env => (if q 0 = true then x.map PV.frz else x) :: frzWhere (fun n => q (n + 1)) env
def leak (v : PV) (outs : List PV) : Bool := !(v.noF && noFL outs)
def callB (F : PFns) (f : Str) (bs : List BV) (env : PEnv) : PR (List BV) :=
  match takeIO (F.io f) bs env with
  | some (ivs, envh) => (match argV (F.io f) bs ivs envh with
    | some args => (match F.fn f args with
      | .ok v outs => (match putOuts (F.io f) bs outs (if leak v outs = true then frzWhere (roSlot (F.io f) bs) envh else envh) with
        | some e2 => .ok [⟨v, none⟩] e2
        | none => .stuck)
      | .exc c v outs => (match putOuts (F.io f) bs outs (if leak v outs = true then frzWhere (roSlot (F.io f) bs) envh else envh) with
        | some e2 => .exc c v e2
        | none => .stuck)
      | .stuck => .stuck)
    | none => .stuck)
  | none => .stuck
def tmp (v : PV) : List BV := [⟨v, none⟩]
def pexc (v : PV) (c : Str) : Option Bool :=
  match v with
  | .obj _ c' _ _ => some (excSub c' c)
  | _ => none
def compP (f : PV → PEnv → PR (Option PV)) : List PV → List PV → PEnv → PR (List PV)
  | [], acc, env => .ok acc env
  | x :: xs, acc, env => (f x env).bind fun o e1 => match o with
    | none => compP f xs acc e1
    | some y => if acc.length < sizeLine then compP f xs (acc ++ [y]) e1 else .stuck
def back (env : PEnv) (i : Nat) : Option PV :=
  match env[i]? with
  | some (some v) => if v.noO = true then some v else none
  | _ => none
def tests (x : BV) (env : PEnv) : PR Bool := PR.opt ((cur x env).bind ptruth) env
def biMd : Bi → Bool
  | .list => true
  | .tuple => true
  | _ => false
def pmtOk (m : Mt) : Option PV → Bool
  | some (.lst _ _) => decide (m ≠ .get)
  | some (.dict _ _ _) => decide (m = .get)
  | _ => false
/-- where no item is owned -/
def kids (v : PV) (o : Option PV) : Option PV := if v.kidsNoO = true then o else none
def asBool : Option PV → Option Bool
  | some (.bool b) => some b
  | _ => none
def srcP (k : Src) (vs : List BV) : Option (List PV) :=
  match k with
  | .range => (tvals vs).bind fun xs => pItems .range (.tup xs)
  | .seq => (match vs with | [⟨v, none⟩] => pItems .seq v.frz | _ => none)
noncomputable def evalP (F : PFns) : CE → Md → PEnv → PR (List BV)
  | .var i, m, env => (match env[i]? with | some (some v) => touch m i [] v env | _ => .stuck)
  | .none_, _, env => .ok (tmp .none) env
  | .bool_ b, _, env => .ok (tmp (.bool b)) env
  | .int_ i, _, env => .ok (tmp (.int i)) env
  | .str_ s, _, env => .ok (tmp (.str s)) env
  | .glob x, _, env => (match F.glob x with | some v => .ok (tmp v) env | none => .stuck)
  | .nil, _, env => .ok [] env
  | .cons a r, m, env => (evalP F a m env).bindX fun xs e1 => one xs fun x => (evalP F r m e1).bindX fun ys e2 => if okPl x (calm F.io r) = true then .ok (x :: ys) e2 else .stuck
  | .tup args, m, env => (evalP F args (mvSh m) env).bind fun xs e1 => (match tvals xs with | some vs => if vs.length ≤ sizeLine then .ok (tmp (.tup vs)) e1 else .stuck | none => .stuck)
  | .lst args, _, env => (evalP F args .sh env).bind fun xs e1 => (match tvals xs with | some vs => if vs.length ≤ sizeLine then .ok (tmp (.lst true vs)) e1 else .stuck | none => .stuck)
  | .bin op a b, _, env => (evalP F a .ki env).bind fun xs e1 => one xs fun x => (evalP F b .ki e1).bind fun ys e2 => one ys fun y =>
      if okPl x (calm F.io b) = true then PR.opt (((cur x e2).bind fun v => (cur y e2).bind fun w => kids v (kids w (pbin op v w))).map tmp) e2 else .stuck
  | .neg a, _, env => (evalP F a .bo env).bind fun xs e1 => tone xs fun v => (match v with | .int i => .ok (tmp (.int (-i))) e1 | _ => .stuck)
  | .cmp op a b, _, env => (evalP F a .bo env).bind fun xs e1 => one xs fun x => (evalP F b .bo e1).bind fun ys e2 => one ys fun y =>
      if okPl x (calm F.io b) = true then PR.opt (((cur x e2).bind fun v => (cur y e2).bind fun w => pcmp op v w).map tmp) e2 else .stuck
  | .chain op op' a b c, _, env => (evalP F a .bo env).bind fun xs e1 => tone xs fun v => (evalP F b .bo e1).bind fun ys e2 => tone ys fun w =>
      (match asBool (pcmp op v w) with
        | some d => if d = true then (evalP F c .bo e2).bind fun zs e3 => tone zs fun u => PR.opt ((pcmp op' w u).map tmp) e3
          else .ok (tmp (.bool false)) e2
        | none => .stuck)
  | .and1 a, m, env => evalP F a m env
  | .and2 a r, m, env => (evalP F a .bo env).bind fun xs e1 => tone xs fun v => (match v with
    | .bool d => if d = true then evalP F r m e1 else .ok (tmp (.bool false)) e1
    | _ => .stuck)
  | .or1 a, m, env => evalP F a m env
  | .or2 a r, m, env => (evalP F a .bo env).bind fun xs e1 => tone xs fun v => (match v with
    | .bool d => if d = true then .ok (tmp (.bool true)) e1 else evalP F r m e1
    | _ => .stuck)
  | .not_ a, _, env => (evalP F a .bo env).bind fun xs e1 => one xs fun x => (tests x e1).bind fun b e2 => .ok (tmp (.bool (!b))) e2
  | .ifx c a b, m, env => (evalP F c .bo env).bind fun xs e1 => one xs fun x => (tests x e1).bind fun t e2 => if t = true then evalP F a m e2 else evalP F b m e2
  | .ix a i, m, env => (evalP F a .bo env).bind fun xs e1 => one xs fun x => (evalP F i .sh e1).bind fun ys e2 => tone ys fun y => (match x.pl with
      | none => PR.opt ((getS (.ix y) x.v).map tmp) e2
      | some (r, p) => if p.isEmpty || calm F.io i then (match getE e2 r p with
        | some v => if v.ownT = true then (match getS (.ix y) v with
          | some c => touch m r (p ++ [.ix y]) c e2
          | none => .stuck) else .stuck
        | none => .stuck) else .stuck)
  | .slice a lo hi, _, env => (evalP F a .ki env).bind fun xs e1 => one xs fun x =>
      (if isNil lo = true then PR.ok none e1 else (evalP F lo .bo e1).bind fun ls e => tone ls fun l => PR.opt ((ppart l).map some) e).bind fun l e2 =>
      (if isNil hi = true then PR.ok none e2 else (evalP F hi .bo e2).bind fun ls e => tone ls fun l => PR.opt ((ppart l).map some) e).bind fun h e3 =>
      if okPl x (calm F.io lo && calm F.io hi) = true then PR.opt (((cur x e3).bind fun v => kids v (pslice v l h)).map tmp) e3 else .stuck
  | .rev a, _, env => (evalP F a .ki env).bind fun xs e1 => one xs fun x => PR.opt (((cur x e1).bind fun v => kids v (prev v)).map tmp) e1
  | .call f args, _, env => (match evalP F args .bo env with
    | .ok bs e1 => callB F f bs e1
    | .exc c v e1 => if F.has f = true then .exc c v e1 else .stuck
    | .stuck => .stuck)
  | .bi b args, _, env => (evalP F args (if biMd b = true then .ki else .bo) env).bind fun xs e1 => PR.opt (((curs xs e1).bind fun vs => if biMd b = true ∧ (vs.all fun v => v.kidsNoO) = false then none else pbi b vs).map tmp) e1
  | .isi t a, _, env => (evalP F a .bo env).bind fun xs e1 => one xs fun x => PR.opt (((cur x e1).bind fun v => pisInst t v).map fun b => tmp (.bool b)) e1
  | .meth m o args, _, env => (evalP F o .bo env).bind fun xs e1 => one xs fun x => if pmtOk m (cur x e1) = false then .stuck else (evalP F args .sh e1).bind fun ys e2 => (match tvals ys with
      | some ws => if mtW m = true then (match x.pl with
          | none => .stuck
          | some (r, p) => if p.isEmpty || calm F.io args then (match getE e2 r p with
            | some c => (match pwrite m c ws with
              | some (a, c') => (match putE e2 r p c' with | some e3 => .ok (tmp a) e3 | none => .stuck)
              | none => .stuck)
            | none => .stuck) else .stuck)
        else if okPl x (calm F.io args) = true then PR.opt (((cur x e2).bind fun v => if m = .get then kids v (pread m v ws) else pread m v ws).map tmp) e2 else .stuck
      | none => .stuck)
  | .comp k i src cond elt, _, env => (evalP F src .sh env).bind fun vs e1 => (match srcP k vs with
      | some xs => (compP (fun x e => if isNil cond = true then (evalP F elt .sh (e.set i (some x))).bind fun ys e3 => tone ys fun y => .ok (some y) e3
          else (evalP F cond .bo (e.set i (some x))).bind fun ts e2 => one ts fun t => (tests t e2).bind fun b e3 => if b = true then (evalP F elt .sh (e3.set i (some x))).bind fun ys e4 => tone ys fun y => .ok (some y) e4 else .ok none e3) xs [] e1).bind fun acc e2 => .ok (tmp (.lst true acc)) (e2.set i (back e1 i))
      | none => .stuck)
  | .kv k v r, _, env => (evalP F k .sh env).bind fun xs e1 => tone xs fun x => (evalP F v .sh e1).bind fun ys e2 => tone ys fun y => (evalP F r .sh e2).bind fun ws e3 => .ok (⟨x, none⟩ :: ⟨y, none⟩ :: ws) e3
  | .dict ps, _, env => (evalP F ps .sh env).bind fun ws e1 => (match (tvals ws).bind pPairs with
      | some kvs => if kvs.length ≤ 15 then .ok (tmp (.dict true (pMerge kvs [] []).1 (pMerge kvs [] []).2)) e1 else .stuck
      | none => .stuck)
  | .isx c a, _, env => if F.fuel % 2 = 1 then ((evalP F a .bo env).bind fun xs e1 => one xs fun x => PR.opt (((cur x e1).bind fun v => pexc v c).map fun b => tmp (.bool b)) e1) else .stuck
  | .fld f a, m, env => if F.fuel % 2 = 1 ∧ f = "at" then ((evalP F a .bo env).bind fun xs e1 => one xs fun x => PR.opt (((cur x e1).bind fun v => match v with
      | .obj _ c ns vs => if c = "Over" then (fget ns vs f).bind fun w => if w.noO = true then some w else none else none
      | _ => none).map tmp) e1) else .stuck
inductive PFlow where
  | next | brk | cont | ret (v : PV)
def psetAll : List Nat → List PV → PEnv → Option PEnv
  | [], [], env => some env
  | i :: is, v :: vs, env => psetAll is vs (env.set i (some v))
  | _, _, _ => none
def pbindTo : List Nat → PV → PEnv → Option PEnv
  | [i], v, env => some (env.set i (some v))
  | is, .tup vs, env => psetAll is vs env
  | _, _, _ => none
noncomputable def whileP (c : PEnv → PR Bool) (b : PEnv → PR PFlow) : Nat → PEnv → PR PFlow
  | 0, _ => .stuck
  | n + 1, env => (c env).bind fun t e1 => if t = true then ((b e1).bind fun p e2 => match p with
      | .next => whileP c b n e2
      | .cont => whileP c b n e2
      | .brk => .ok .next e2
      | .ret v => .ok (.ret v) e2) else .ok .next e1
noncomputable def forP (is : List Nat) (b : PEnv → PR PFlow) : List PV → PEnv → PR PFlow
  | [], env => .ok .next env
  | x :: xs, env => (match pbindTo is x env with
    | some env1 => (b env1).bindX fun p e2 => (match p with
      | .next => forP is b xs e2
      | .cont => forP is b xs e2
      | .brk => .ok .next e2
      | .ret v => .ok (.ret v) e2)
    | none => .stuck)
noncomputable def evalPS (F : PFns) : CS → PEnv → PR PFlow
  | .skip, env => .ok .next env
  | .seq s r, env => (evalPS F s env).bindX fun p e1 => match p with
    | .next => evalPS F r e1
    | f => .ok f e1
  | .expr e, env => (evalP F e .bo env).bindX fun xs e1 => one xs fun _ => .ok .next e1
  | .ret e, env => (evalP F e .mv env).bindX fun xs e1 => tone xs fun v => .ok (.ret v) e1
  | .retN, env => .ok (.ret .none) env
  | .pass, env => .ok .next env
  | .brk, env => .ok .brk env
  | .cont, env => .ok .cont env
  | .set i e, env => (evalP F e .sh env).bindX fun xs e1 => tone xs fun v => .ok .next (e1.set i (some v))
  | .tset is e, env => (evalP F e .sh env).bind fun xs e1 => tone xs fun v => (match v with
    | .tup vs => (match psetAll is vs e1 with | some e2 => .ok .next e2 | none => .stuck)
    | _ => .stuck)
  | .tpar i j e, env => (evalP F e .sh env).bind fun xs e1 => (match tvals xs with
    | some [x, y] => .ok .next ((e1.set i (some x)).set j (some y))
    | _ => .stuck)
  | .sub o i e, env => (evalP F e .sh env).bind fun vs e1 => tone vs fun v => (evalP F o .bo e1).bind fun xs e2 => one xs fun x => (evalP F i .sh e2).bind fun ys e3 => tone ys fun y => (match x.pl with
    | some (r, p) => if p.isEmpty || calm F.io i then (match getE e3 r p with
      | some c => (match psub c y v with
        | some c' => (match putE e3 r p c' with | some e4 => .ok .next e4 | none => .stuck)
        | none => .stuck)
      | none => .stuck) else .stuck
    | none => .stuck)
  | .if_ c a b, env => (evalP F c .bo env).bind fun xs e1 => one xs fun x => (tests x e1).bind fun t e2 => if t = true then evalPS F a e2 else evalPS F b e2
  | .while_ c a, env => whileP (fun env => (evalP F c .bo env).bind fun xs e1 => one xs fun x => tests x e1) (fun env => evalPS F a env) F.fuel env
  | .for_ k is src a, env => (evalP F src .sh env).bind fun vs e1 => (match srcP k vs with
    | some xs => forP is (fun env => evalPS F a env) xs e1
    | none => .stuck)
  | .never, _ => .stuck
  | .raise0 c, env => if c ∈ exc0 ∧ F.fuel % 2 = 1 then .exc c .none env else .stuck
  | .raise1 c e, env => if c = "Over" ∧ F.fuel % 2 = 1 then (evalP F e .sh env).bind fun xs e1 => tone xs fun v => if v.noO = true ∧ v.noF = true then .exc c v e1 else .stuck else .stuck
  | .tryc i e x n j, env => if x = "ScoreError" ∧ F.fuel % 2 = 1 then (match evalP F e .sh env with
    | .ok xs e1 => tone xs fun v => .ok .next (e1.set i (some v))
    | .exc c v e1 => .ok .next ((e1.set j (some (.obj true c ((excFs c .none).map (·.1)) (if c = "Over" then [v] else [])))).set n none)
    | .stuck => .stuck) else .stuck

/-! ### functions -/
def outsOf : List Bool → PEnv → Option (List PV)
  | true :: ms, some v :: env => (outsOf ms env).map (v :: ·)
  | true :: _, _ => none
  | false :: ms, _ :: env => outsOf ms env
  | false :: _, [] => none
  | [], _ => some []
/-- the parameters that a def never sets anew -/
def noSet (i : Nat) : CS → Bool
  | .seq s r => noSet i s && noSet i r
  | .set j _ => !decide (i = j)
  | .tset is _ => !is.contains i
  | .tpar j k _ => !(decide (i = j) || decide (i = k))
  | .if_ _ a b => noSet i a && noSet i b
  | .while_ _ a => noSet i a
  | .for_ _ is _ a => !is.contains i && noSet i a
  | .tryc j _ _ n k => !(decide (i = j) || (decide (i = n) || decide (i = k)))
  | _ => true
def ioSet : Nat → List Bool → CS → Bool
  | i, true :: ms, b => noSet i b && ioSet (i + 1) ms b
  | i, false :: ms, b => ioSet (i + 1) ms b
  | _, [], _ => true
noncomputable def runP (F : PFns) (ms : List Bool) (d : Def) (args : List PV) : PC :=
  if args.length = d.params ∧ ms.length ≤ d.params ∧ ioSet 0 ms d.body = true then
    match evalPS F d.body (args.map some ++ List.replicate (d.names.length - args.length) none) with
    | .ok (.ret v) e1 => (match outsOf ms e1 with | some os => .ok v os | none => .stuck)
    | .ok .next e1 => (match outsOf ms e1 with | some os => .ok .none os | none => .stuck)
    | .exc c v e1 => (match outsOf ms e1 with | some os => .exc c v os | none => .stuck)
    | _ => .stuck
  else .stuck
def finP (b : Bool) (r : PC) : PC := match r with
  | .exc c v s => if b = true then .exc c v s else .stuck
  | r => r
noncomputable def callP (T : Tab) (gl : Str → Option PV) (io : Str → List Bool) (W : Nat) : Nat → Str → List PV → PC
  | 0, _, _ => .stuck
  | n + 1, f, args => match T.lookup f with
    | some d => finP (canB T f) (runP ⟨callP T gl io W n, gl, W, hasN T n, io⟩ (io f) d args)
    | none => .stuck
end Ev

set_option Elab.async false
set_option linter.all false
set_option maxRecDepth 100000
set_option maxHeartbeats 1000000
/-! ## How plain values stand in a store -/
namespace Ev
open PySem
abbrev Cn := Nat → Nat
def DictAt (st : Store) (n : Nat) (kvs : List (Sum Int Str × Val)) : Prop := st[n]? = some (.dict kvs) ∧ (kvs.map (·.1)).Nodup
section
variable (st : Store) (Z : Nat → Prop)
mutual
inductive Rep : Val → PV → Cn → Prop
  | none {c : Cn} : (∀ n, c n = 0) → Rep .none .none c
  | bool {c : Cn} (b : Bool) : (∀ n, c n = 0) → Rep (.bool b) (.bool b) c
  | int {c : Cn} (i : Int) : (∀ n, c n = 0) → Rep (.int i) (.int i) c
  | str {c : Cn} (s : Str) : (∀ n, c n = 0) → Rep (.str s) (.str s) c
  | tup {xs : List Val} {ps : List PV} {c : Cn} : Reps xs ps c → Rep (.tup xs) (.tup ps) c
  | ro {n : Nat} {xs : List Val} {ps : List PV} {c : Cn} : st[n]? = some (.ro xs) → Z n → Reps xs ps c → (∀ m, c m = 0) → Rep (.ref n) (.ro ps) c
  | lstF {n : Nat} {xs : List Val} {ps : List PV} {c : Cn} : st[n]? = some (.lst xs) → Z n → Reps xs ps c → (∀ m, c m = 0) → Rep (.ref n) (.lst false ps) c
  | lstO {n : Nat} {xs : List Val} {ps : List PV} {c d : Cn} : st[n]? = some (.lst xs) → Reps xs ps d → (∀ m, c m = (if m = n then 1 else 0) + d m) → Rep (.ref n) (.lst true ps) c
  | dictF {n : Nat} {kvs : List (Sum Int Str × Val)} {ps : List PV} {c : Cn} : DictAt st n kvs → Z n → Reps (kvs.map (·.2)) ps c → (∀ m, c m = 0) → Rep (.ref n) (.dict false (kvs.map fun kv => nk kv.1) ps) c
  | dictO {n : Nat} {kvs : List (Sum Int Str × Val)} {ps : List PV} {c d : Cn} : DictAt st n kvs → Reps (kvs.map (·.2)) ps d → (∀ m, c m = (if m = n then 1 else 0) + d m) → Rep (.ref n) (.dict true (kvs.map fun kv => nk kv.1) ps) c
  | objF {n : Nat} {cl : Str} {fs : List (Str × Val)} {ps : List PV} {c : Cn} : st[n]? = some (.inst cl fs) → Z n → Reps (fs.map (·.2)) ps c → (∀ m, c m = 0) → Rep (.ref n) (.obj false cl (fs.map (·.1)) ps) c
  | objO {n : Nat} {cl : Str} {fs : List (Str × Val)} {ps : List PV} {c d : Cn} : st[n]? = some (.inst cl fs) → Reps (fs.map (·.2)) ps d → (∀ m, c m = (if m = n then 1 else 0) + d m) → Rep (.ref n) (.obj true cl (fs.map (·.1)) ps) c
inductive Reps : List Val → List PV → Cn → Prop
  | nil {c : Cn} : (∀ n, c n = 0) → Reps [] [] c
  | cons {x : Val} {p : PV} {xs : List Val} {ps : List PV} {a b c : Cn} : Rep x p a → Reps xs ps b → (∀ n, c n = a n + b n) → Reps (x :: xs) (p :: ps) c
end
end
def z0 : Cn := fun _ => 0
@[simp] theorem z0_at (n : Nat) : z0 n = 0 := rfl
theorem set_same {α : Type} {xs : List α} {i : Nat} {w : α} (h : xs[i]? = some w) : xs.set i w = xs := by
  obtain ⟨hi, e⟩ := List.getElem?_eq_some_iff.mp h
  rw [← e, List.set_getElem_self]
section
variable {st st' : Store} {Z Z' : Nat → Prop}
theorem Rep.cong {v : Val} {p : PV} {c d : Cn} (h : Rep st Z v p c) (e : ∀ n, d n = c n) : Rep st Z v p d := by
  have : d = c := funext e
  rw [this]; exact h
theorem Reps.cong {v : List Val} {p : List PV} {c d : Cn} (h : Reps st Z v p c) (e : ∀ n, d n = c n) : Reps st Z v p d := by
  have : d = c := funext e
  rw [this]; exact h
mutual
theorem Rep.zero : ∀ {v : Val} {p : PV} {c : Cn}, Rep st Z v p c → p.noO = true → ∀ n, c n = 0
  | _, _, _, .none z, _ => z
  | _, _, _, .bool _ z, _ => z
  | _, _, _, .int _ z, _ => z
  | _, _, _, .str _ z, _ => z
  | _, _, _, .tup r, h => Reps.zero r h
  | _, _, _, .ro _ _ _ z, _ => z
  | _, _, _, .lstF _ _ _ z, _ => z
  | _, _, _, .lstO _ _ _, h => by cases h
  | _, _, _, .dictF _ _ _ z, _ => z
  | _, _, _, .dictO _ _ _, h => by cases h
  | _, _, _, .objF _ _ _ z, _ => z
  | _, _, _, .objO _ _ _, h => by cases h
theorem Reps.zero : ∀ {v : List Val} {p : List PV} {c : Cn}, Reps st Z v p c → noOL p = true → ∀ n, c n = 0
  | _, _, _, .nil z, _ => z
  | _, _, _, .cons r t e, h => fun n => by
    have h : (_ && _) = true := h
    rw [Bool.and_eq_true] at h
    rw [e n, Rep.zero r h.1 n, Reps.zero t h.2 n]
end
mutual
theorem Rep.frame (hz : ∀ n, Z n → st'[n]? = st[n]?) (zz : ∀ n, Z n → Z' n) : ∀ {v : Val} {p : PV} {c : Cn}, Rep st Z v p c → (∀ n, 1 ≤ c n → st'[n]? = st[n]?) → Rep st' Z' v p c
  | _, _, _, .none z, _ => .none z
  | _, _, _, .bool _ z, _ => .bool _ z
  | _, _, _, .int _ z, _ => .int _ z
  | _, _, _, .str _ z, _ => .str _ z
  | _, _, _, .tup r, h => .tup (Reps.frame hz zz r h)
  | _, _, _, .ro e1 e2 r z, h => .ro (by rw [hz _ e2]; exact e1) (zz _ e2) (Reps.frame hz zz r h) z
  | _, _, _, .lstF e1 e2 r z, h => .lstF (by rw [hz _ e2]; exact e1) (zz _ e2) (Reps.frame hz zz r h) z
  | _, _, _, .lstO e1 r z, h => .lstO (by rw [h _ (by rw [z, if_pos rfl]; ((try dsimp only at *); omega))]; exact e1) (Reps.frame hz zz r fun n q => h n (by rw [z]; ((try dsimp only at *); omega))) z
  | _, _, _, .dictF e1 e2 r z, h => .dictF ⟨by rw [hz _ e2]; exact e1.1, e1.2⟩ (zz _ e2) (Reps.frame hz zz r h) z
  | _, _, _, .dictO e1 r z, h => .dictO ⟨by rw [h _ (by rw [z, if_pos rfl]; ((try dsimp only at *); omega))]; exact e1.1, e1.2⟩ (Reps.frame hz zz r fun n q => h n (by rw [z]; ((try dsimp only at *); omega))) z
  | _, _, _, .objF e1 e2 r z, h => .objF (by rw [hz _ e2]; exact e1) (zz _ e2) (Reps.frame hz zz r h) z
  | _, _, _, .objO e1 r z, h => .objO (by rw [h _ (by rw [z, if_pos rfl]; ((try dsimp only at *); omega))]; exact e1) (Reps.frame hz zz r fun n q => h n (by rw [z]; ((try dsimp only at *); omega))) z
theorem Reps.frame (hz : ∀ n, Z n → st'[n]? = st[n]?) (zz : ∀ n, Z n → Z' n) : ∀ {v : List Val} {p : List PV} {c : Cn}, Reps st Z v p c → (∀ n, 1 ≤ c n → st'[n]? = st[n]?) → Reps st' Z' v p c
  | _, _, _, .nil z, _ => .nil z
  | _, _, _, .cons r t e, h => .cons (Rep.frame hz zz r fun n q => h n (by rw [e]; ((try dsimp only at *); omega))) (Reps.frame hz zz t fun n q => h n (by rw [e]; ((try dsimp only at *); omega))) e
end
mutual
theorem Rep.frz (zz : ∀ n, Z n → Z' n) : ∀ {v : Val} {p : PV} {c : Cn}, Rep st Z v p c → (∀ n, 1 ≤ c n → Z' n) → Rep st Z' v p.frz z0
  | _, _, _, .none z, _ => .none fun _ => rfl
  | _, _, _, .bool _ z, _ => .bool _ fun _ => rfl
  | _, _, _, .int _ z, _ => .int _ fun _ => rfl
  | _, _, _, .str _ z, _ => .str _ fun _ => rfl
  | _, _, _, .tup r, h => .tup (Reps.frz zz r h)
  | _, _, _, .ro e1 e2 r z, h => .ro e1 (zz _ e2) ((Reps.frame (fun _ _ => rfl) zz r fun _ _ => rfl).cong fun n => (z n).symm) fun _ => rfl
  | _, _, _, .lstF e1 e2 r z, h => .lstF e1 (zz _ e2) (Reps.frz zz r h) fun _ => rfl
  | _, _, _, .lstO e1 r z, h => .lstF e1 (h _ (by rw [z, if_pos rfl]; ((try dsimp only at *); omega))) (Reps.frz zz r fun n q => h n (by rw [z]; ((try dsimp only at *); omega))) fun _ => rfl
  | _, _, _, .dictF e1 e2 r z, h => .dictF e1 (zz _ e2) (Reps.frz zz r h) fun _ => rfl
  | _, _, _, .dictO e1 r z, h => .dictF e1 (h _ (by rw [z, if_pos rfl]; ((try dsimp only at *); omega))) (Reps.frz zz r fun n q => h n (by rw [z]; ((try dsimp only at *); omega))) fun _ => rfl
  | _, _, _, .objF e1 e2 r z, h => .objF e1 (zz _ e2) (Reps.frz zz r h) fun _ => rfl
  | _, _, _, .objO e1 r z, h => .objF e1 (h _ (by rw [z, if_pos rfl]; ((try dsimp only at *); omega))) (Reps.frz zz r fun n q => h n (by rw [z]; ((try dsimp only at *); omega))) fun _ => rfl
theorem Reps.frz (zz : ∀ n, Z n → Z' n) : ∀ {v : List Val} {p : List PV} {c : Cn}, Reps st Z v p c → (∀ n, 1 ≤ c n → Z' n) → Reps st Z' v (frzL p) z0
  | _, _, _, .nil z, _ => .nil fun _ => rfl
  | _, _, _, .cons r t e, h => .cons (Rep.frz zz r fun n q => h n (by rw [e]; ((try dsimp only at *); omega))) (Reps.frz zz t fun n q => h n (by rw [e]; ((try dsimp only at *); omega))) fun _ => rfl
end
mutual
theorem Rep.free : ∀ {v : Val} {p : PV} {c : Cn}, Rep st Z v p c → p.noF = true → Rep st Z' v p c
  | _, _, _, .none z, _ => .none z
  | _, _, _, .bool _ z, _ => .bool _ z
  | _, _, _, .int _ z, _ => .int _ z
  | _, _, _, .str _ z, _ => .str _ z
  | _, _, _, .tup r, h => .tup (Reps.free r h)
  | _, _, _, .ro e1 e2 r z, h => by cases h
  | _, _, _, .lstF e1 e2 r z, h => by cases h
  | _, _, _, .lstO e1 r z, h => .lstO e1 (Reps.free r h) z
  | _, _, _, .dictF e1 e2 r z, h => by cases h
  | _, _, _, .dictO e1 r z, h => .dictO e1 (Reps.free r h) z
  | _, _, _, .objF e1 e2 r z, h => by cases h
  | _, _, _, .objO e1 r z, h => .objO e1 (Reps.free r h) z
theorem Reps.free : ∀ {v : List Val} {p : List PV} {c : Cn}, Reps st Z v p c → noFL p = true → Reps st Z' v p c
  | _, _, _, .nil z, _ => .nil z
  | _, _, _, .cons r t e, h => by
    have h : (_ && _) = true := h
    rw [Bool.and_eq_true] at h
    exact .cons (Rep.free r h.1) (Reps.free t h.2) e
end
mutual
theorem Rep.lt : ∀ {v : Val} {p : PV} {c : Cn}, Rep st Z v p c → ∀ n, 1 ≤ c n → n < st.length
  | _, _, _, .none z, n, h => by have := z n; ((try dsimp only at *); omega)
  | _, _, _, .bool _ z, n, h => by have := z n; ((try dsimp only at *); omega)
  | _, _, _, .int _ z, n, h => by have := z n; ((try dsimp only at *); omega)
  | _, _, _, .str _ z, n, h => by have := z n; ((try dsimp only at *); omega)
  | _, _, _, .tup r, n, h => Reps.lt r n h
  | _, _, _, .ro e1 e2 r z, n, h => by have := z n; ((try dsimp only at *); omega)
  | _, _, _, .lstF e1 e2 r z, n, h => by have := z n; ((try dsimp only at *); omega)
  | _, _, _, .lstO (n := m) e1 r z, n, h => by
    by_cases q : n = m
    · subst q; exact (List.getElem?_eq_some_iff.mp e1).1
    · exact Reps.lt r n (by rw [z, if_neg q] at h; ((try dsimp only at *); omega))
  | _, _, _, .dictF e1 e2 r z, n, h => by have := z n; ((try dsimp only at *); omega)
  | _, _, _, .dictO (n := m) e1 r z, n, h => by
    by_cases q : n = m
    · subst q; exact (List.getElem?_eq_some_iff.mp e1.1).1
    · exact Reps.lt r n (by rw [z, if_neg q] at h; ((try dsimp only at *); omega))
  | _, _, _, .objF e1 e2 r z, n, h => by have := z n; ((try dsimp only at *); omega)
  | _, _, _, .objO (n := m) e1 r z, n, h => by
    by_cases q : n = m
    · subst q; exact (List.getElem?_eq_some_iff.mp e1).1
    · exact Reps.lt r n (by rw [z, if_neg q] at h; ((try dsimp only at *); omega))
theorem Reps.lt : ∀ {v : List Val} {p : List PV} {c : Cn}, Reps st Z v p c → ∀ n, 1 ≤ c n → n < st.length
  | _, _, _, .nil z, n, h => by have := z n; ((try dsimp only at *); omega)
  | _, _, _, .cons (a := a) r t e, n, h => by
    by_cases q : 1 ≤ a n
    · exact Rep.lt r n q
    · exact Reps.lt t n (by rw [e] at h; ((try dsimp only at *); omega))
end
theorem Reps.length : ∀ {v : List Val} {p : List PV} {c : Cn}, Reps st Z v p c → v.length = p.length
  | _, _, _, .nil _ => rfl
  | _, _, _, .cons _ t _ => by rw [List.length_cons, List.length_cons, t.length]
theorem Reps.append : ∀ {v w : List Val} {p q : List PV} {c d : Cn}, Reps st Z v p c → Reps st Z w q d → Reps st Z (v ++ w) (p ++ q) fun n => c n + d n
  | _, w, _, q, _, d, .nil z, s => s.cong fun n => by rw [z]; ((try dsimp only at *); omega)
  | _, w, _, q, _, d, .cons (b := b) r t e, s => .cons r (t.append s) fun n => by rw [e]; ((try dsimp only at *); omega)
theorem Reps.one {v : Val} {p : PV} {c : Cn} (h : Rep st Z v p c) : Reps st Z [v] [p] c := .cons h (.nil (c := z0) fun _ => rfl) fun n => rfl
/-- an item, all others -/
theorem Reps.at_ : ∀ {v : List Val} {p : List PV} {c : Cn} {i : Nat} {q : PV}, Reps st Z v p c → p[i]? = some q → ∃ (w : Val) (a b : Cn), v[i]? = some w ∧ Rep st Z w q a ∧ (∀ n, c n = a n + b n) ∧
    ∀ (st' : Store) (Z' : Nat → Prop) (w' : Val) (q' : PV) (a' : Cn), (∀ n, Z n → st'[n]? = st[n]?) → (∀ n, 1 ≤ b n → st'[n]? = st[n]?) → (∀ n, Z n → Z' n) → Rep st' Z' w' q' a' → Reps st' Z' (v.set i w') (p.set i q') fun n => a' n + b n
  | _, _, _, i, q, .nil z, h => by simp at h
  | _, _, _, 0, q, .cons (a := a) (b := b) r t e, h => by
    simp at h; subst h
    exact ⟨_, a, b, rfl, r, e, fun st' Z' w' q' a' hz hb zz r' => .cons r' (t.frame hz zz hb) fun n => rfl⟩
  | _, _, _, i + 1, q, .cons (a := a) r t e, h => by
    obtain ⟨w, a1, b1, e1, r1, e2, k⟩ := Reps.at_ t (i := i) (q := q) (by simpa using h)
    refine ⟨w, a1, fun n => a n + b1 n, by simpa using e1, r1, fun n => by rw [e, e2]; ((try dsimp only at *); omega), fun st' Z' w' q' a' hz hb zz r' => ?_⟩
    exact .cons (r.frame hz zz fun n q => hb n (by (try dsimp only at *); omega)) (k st' Z' w' q' a' hz (fun n q => hb n (by (try dsimp only at *); omega)) zz r') fun n => by (try dsimp only at *); omega
theorem Reps.get {v : List Val} {p : List PV} {c : Cn} {i : Nat} {q : PV} (h : Reps st Z v p c) (e : p[i]? = some q) : ∃ (w : Val) (a : Cn), v[i]? = some w ∧ Rep st Z w q a ∧ ∀ n, a n ≤ c n := by
  obtain ⟨w, a, b, e1, r, e2, _⟩ := h.at_ e
  exact ⟨w, a, e1, r, fun n => by rw [e2]; ((try dsimp only at *); omega)⟩
theorem Reps.take_drop : ∀ {v : List Val} {p : List PV} {c : Cn} (k : Nat), Reps st Z v p c → ∃ a b, Reps st Z (v.take k) (p.take k) a ∧ Reps st Z (v.drop k) (p.drop k) b ∧ ∀ n, c n = a n + b n
  | _, _, _, 0, r => ⟨z0, _, .nil fun _ => rfl, r, fun n => by simp⟩
  | _, _, _, k + 1, .nil z => ⟨z0, z0, .nil fun _ => rfl, .nil fun _ => rfl, fun n => by simp [z]⟩
  | _, _, _, k + 1, .cons (a := a) r t e => by
    obtain ⟨x, y, h1, h2, h3⟩ := Reps.take_drop k t
    exact ⟨fun n => a n + x n, y, .cons r h1 fun _ => rfl, h2, fun n => by rw [e, h3]; ((try dsimp only at *); omega)⟩
theorem Reps.reverse : ∀ {v : List Val} {p : List PV} {c : Cn}, Reps st Z v p c → Reps st Z v.reverse p.reverse c
  | _, _, _, .nil z => .nil z
  | _, _, _, .cons r t e => by
    rw [List.reverse_cons, List.reverse_cons]
    exact (t.reverse.append (Reps.one r)).cong fun n => by rw [e]; ((try dsimp only at *); omega)
theorem noOL_all : ∀ {p : List PV}, noOL p = true ↔ ∀ x ∈ p, x.noO = true
  | [] => by simp [noOL]
  | x :: xs => by simp [noOL, noOL_all (p := xs)]
/-- of things that nobody owns: any arrangement of them -/
theorem Reps.pick {v v' : List Val} {p p' : List PV} {c : Cn} (h : Reps st Z v p c) (hz : ∀ n, c n = 0) (hl : v'.length = p'.length) (hk : ∀ (i : Nat) (q : PV), p'[i]? = some q → ∃ (j : Nat) (w : Val), p[j]? = some q ∧ v[j]? = some w ∧ v'[i]? = some w) : Reps st Z v' p' z0 := by
  induction p' generalizing v' with
  | nil => cases v' with
    | nil => exact .nil fun _ => rfl
    | cons _ _ => simp at hl
  | cons q ps ih => cases v' with
    | nil => simp at hl
    | cons w vs =>
      obtain ⟨j, w', e1, e2, e3⟩ := hk 0 q rfl
      simp at e3; subst e3
      obtain ⟨w2, a, e4, r, e5⟩ := h.get e1
      rw [e2] at e4; cases e4
      refine .cons (a := z0) (b := z0) (r.cong fun n => ?_) (ih (by simpa using hl) fun i q' e => hk (i + 1) q' (by simpa using e)) fun n => rfl
      have := e5 n; rw [hz] at this; simp; ((try dsimp only at *); omega)

/-! ### paths -/
def stepV (st : Store) : Stp → Val → Option Val
  | .ix (.int i), .tup xs => L2.atI xs i
  | .ix y, .ref n => (match st[n]? with
      | some (.lst xs) => (match y with | .int i => L2.atI xs i | _ => none)
      | some (.dict kvs) => (match y with | .int i => valK kvs (.inl i) | .str s => valK kvs (.inr s) | _ => none)
      | _ => none)
  | .fld f, .ref n => (match st[n]? with | some (.inst _ fs) => fs.lookup f | _ => none)
  | _, _ => none
def valP (st : Store) : List Stp → Val → Option Val
  | [], v => some v
  | s :: p, v => (stepV st s v).bind (valP st p)
theorem nk_inj {a b : Sum Int Str} : nk a = nk b ↔ a = b := by
  cases a <;> cases b <;> simp [nk]
theorem atI_some {α : Type} {xs : List α} {i : Int} {v : α} (h : L2.atI xs i = some v) : ∃ j, L2.ixN xs.length i = some j ∧ xs[j]? = some v := by
  unfold L2.atI at h
  cases e : L2.ixN xs.length i with
  | none => rw [e] at h; cases h
  | some j => rw [e] at h; exact ⟨j, rfl, h⟩
theorem atI_of {α β : Type} {xs : List α} {ys : List β} {i : Int} {j : Nat} {v : β} (e : L2.ixN xs.length i = some j) (hl : ys.length = xs.length) (h : ys[j]? = some v) : L2.atI ys i = some v := by
  unfold L2.atI
  rw [hl, e]; exact h
/-- entries of a dict -/
theorem dget_at : ∀ {kvs : List (Sum Int Str × Val)} {ps : List PV} {k : Sum Int Str} {q : PV} {c : Cn}, Reps st Z (kvs.map (·.2)) ps c → dget (kvs.map fun kv => nk kv.1) ps (nk k) = some q → ∃ (i : Nat) (w : Val), ps[i]? = some q ∧ (kvs.map (·.2))[i]? = some w ∧ valK kvs k = some w ∧ ∀ q', dputV (kvs.map fun kv => nk kv.1) ps (nk k) q' = ps.set i q'
  | [], ps, k, q, c, r, h => by cases ps <;> cases h
  | kv :: kvs, [], k, q, c, r, h => by cases h
  | kv :: kvs, p :: ps, k, q, c, .cons r t e, h => by
    have h : (if nk kv.1 = nk k then some p else dget (kvs.map fun kv => nk kv.1) ps (nk k)) = some q := h
    by_cases d : kv.1 = k
    · rw [if_pos (by rw [d])] at h
      cases h
      refine ⟨0, kv.2, rfl, rfl, by simp [valK, List.find?_cons, d], fun q' => ?_⟩
      show (if nk kv.1 = nk k then q' :: ps else _) = _
      rw [if_pos (by rw [d])]; rfl
    · have d' : ¬ nk kv.1 = nk k := fun z => d (nk_inj.mp z)
      rw [if_neg d'] at h
      obtain ⟨i, w, e1, e2, e3, e4⟩ := dget_at t h
      refine ⟨i + 1, w, by simpa using e1, by simpa using e2, ?_, fun q' => ?_⟩
      · rw [← e3]; simp [valK, List.find?_cons, d]
      · show (if nk kv.1 = nk k then q' :: ps else p :: dputV (kvs.map fun kv => nk kv.1) ps (nk k) q') = _
        rw [if_neg d', e4]; rfl
theorem dget_none : ∀ {kvs : List (Sum Int Str × Val)} {ps : List PV} {k : Sum Int Str} {c : Cn}, Reps st Z (kvs.map (·.2)) ps c → dget (kvs.map fun kv => nk kv.1) ps (nk k) = none → valK kvs k = none
  | [], ps, k, c, r, h => rfl
  | kv :: kvs, [], k, c, r, h => by cases r
  | kv :: kvs, p :: ps, k, c, .cons r t e, h => by
    have h : (if nk kv.1 = nk k then some p else dget (kvs.map fun kv => nk kv.1) ps (nk k)) = none := h
    by_cases d : kv.1 = k
    · rw [if_pos (by rw [d])] at h; cases h
    · have d' : ¬ nk kv.1 = nk k := fun z => d (nk_inj.mp z)
      rw [if_neg d'] at h
      rw [← dget_none t h]; simp [valK, List.find?_cons, d]
theorem fget_at : ∀ {fs : List (Str × Val)} {ps : List PV} {k : Str} {q : PV} {c : Cn}, Reps st Z (fs.map (·.2)) ps c → fget (fs.map (·.1)) ps k = some q → ∃ (i : Nat) (w : Val), ps[i]? = some q ∧ (fs.map (·.2))[i]? = some w ∧ fs.lookup k = some w ∧ ∀ q', fput (fs.map (·.1)) ps k q' = ps.set i q'
  | [], ps, k, q, c, r, h => by cases ps <;> cases h
  | kv :: kvs, [], k, q, c, r, h => by cases h
  | kv :: kvs, p :: ps, k, q, c, .cons r t e, h => by
    have h : (if kv.1 = k then some p else fget (kvs.map (·.1)) ps k) = some q := h
    by_cases d : kv.1 = k
    · rw [if_pos d] at h
      cases h
      refine ⟨0, kv.2, rfl, rfl, ?_, fun q' => ?_⟩
      · rw [List.lookup_cons, ← d]; simp
      · show (if kv.1 = k then q' :: ps else _) = _
        rw [if_pos d]; rfl
    · rw [if_neg d] at h
      obtain ⟨i, w, e1, e2, e3, e4⟩ := fget_at t h
      refine ⟨i + 1, w, by simpa using e1, by simpa using e2, ?_, fun q' => ?_⟩
      · rw [← e3, List.lookup_cons]
        have : (k == kv.1) = false := by simpa using fun z : k = kv.1 => d z.symm
        rw [this]
      · show (if kv.1 = k then q' :: ps else p :: fput (kvs.map (·.1)) ps k q') = _
        rw [if_neg d, e4]; rfl
theorem keyT_nk {y : PV} {k : NestedKey} (h : keyT y = some k) : ∃ k', k = nk k' ∧ ((∃ i, y = .int i ∧ k' = .inl i) ∨ ∃ s, y = .str s ∧ k' = .inr s) := by
  cases y with
  | int i => cases h; exact ⟨.inl i, rfl, .inl ⟨i, rfl, rfl⟩⟩
  | str s => cases h; exact ⟨.inr s, rfl, .inr ⟨s, rfl, rfl⟩⟩
  | _ => cases h
/-- a step: the thing there, all else -/
theorem Rep.step {v : Val} {p q : PV} {c : Cn} {s : Stp} (h : Rep st Z v p c) (o : p.ownT = true) (e : getS s p = some q) : ∃ (w : Val) (a b : Cn), stepV st s v = some w ∧ Rep st Z w q a ∧ (∀ n, c n = a n + b n) ∧
    ∀ (st' : Store) (Z' : Nat → Prop) (q' : PV) (a' : Cn), (∀ n, Z n → st'[n]? = st[n]?) → (∀ n, 1 ≤ b n → st'[n]? = st[n]?) → (∀ n, Z n → Z' n) → Rep st' Z' w q' a' → ∃ p', setS s p q' = some p' ∧ Rep st' Z' v p' fun n => a' n + b n := by
  cases h with
  | none => cases o
  | bool => cases o
  | int => cases o
  | str => cases o
  | ro => cases o
  | lstF => cases o
  | dictF => cases o
  | objF => cases o
  | @tup xs ps c r =>
    cases s with
    | fld f => cases e
    | ix y =>
      cases y with
      | int i =>
        have e : L2.atI ps i = some q := e
        obtain ⟨j, e1, e2⟩ := atI_some e
        obtain ⟨w, a, b, e3, r1, e4, k⟩ := r.at_ e2
        refine ⟨w, a, b, atI_of e1 r.length e3, r1, e4, fun st' Z' q' a' hz hb zz r' => ⟨.tup (ps.set j q'), ?_, ?_⟩⟩
        · show (L2.ixN ps.length i).map _ = _
          rw [e1]; rfl
        · have := k st' Z' w q' a' hz hb zz r'
          rw [set_same e3] at this
          exact .tup this
      | _ => cases e
  | @lstO n xs ps c d h1 r hc =>
    cases s with
    | fld f => cases e
    | ix y =>
      cases y with
      | int i =>
        have e : L2.atI ps i = some q := e
        obtain ⟨j, e1, e2⟩ := atI_some e
        obtain ⟨w, a, b, e3, r1, e4, k⟩ := r.at_ e2
        refine ⟨w, a, fun m => (if m = n then 1 else 0) + b m, ?_, r1, fun m => by rw [hc, e4]; ((try dsimp only at *); omega), fun st' Z' q' a' hz hb zz r' => ⟨.lst true (ps.set j q'), ?_, ?_⟩⟩
        · show (match st[n]? with | some (.lst xs) => L2.atI xs i | some (.dict kvs) => valK kvs (.inl i) | _ => Option.none) = _
          rw [h1]
          exact atI_of e1 r.length e3
        · show (L2.ixN ps.length i).map _ = _
          rw [e1]; rfl
        · have := k st' Z' w q' a' hz (fun m z => hb m (by (try dsimp only at *); omega)) zz r'
          rw [set_same e3] at this
          exact .lstO (by rw [hb n (by show 1 ≤ (if n = n then 1 else 0) + b n; rw [if_pos rfl]; omega)]; exact h1) this fun m => by (try dsimp only at *); omega
      | _ => cases e
  | @dictO n kvs ps c d h1 r hc =>
    cases s with
    | fld f => cases e
    | ix y =>
      have e : (keyT y).bind (dget (kvs.map fun kv => nk kv.1) ps) = some q := by cases y <;> exact e
      cases ek : keyT y with
      | none => rw [ek] at e; cases e
      | some kk =>
        rw [ek] at e
        obtain ⟨k', rfl, hy⟩ := keyT_nk ek
        obtain ⟨i, w, e1, e2, e3, e4⟩ := dget_at r e
        obtain ⟨w2, a, b, e5, r1, e6, k⟩ := r.at_ e1
        rw [e2] at e5; cases e5
        refine ⟨w, a, fun m => (if m = n then 1 else 0) + b m, ?_, r1, fun m => by rw [hc, e6]; ((try dsimp only at *); omega), fun st' Z' q' a' hz hb zz r' => ⟨.dict true (kvs.map fun kv => nk kv.1) (ps.set i q'), ?_, ?_⟩⟩
        · rcases hy with ⟨j, rfl, rfl⟩ | ⟨j, rfl, rfl⟩
          · show (match st[n]? with | some (.lst xs) => L2.atI xs j | some (.dict kvs) => valK kvs (.inl j) | _ => Option.none) = _
            rw [h1.1]; exact e3
          · show (match st[n]? with | some (.lst xs) => Option.none | some (.dict kvs) => valK kvs (.inr j) | _ => Option.none) = _
            rw [h1.1]; exact e3
        · have : setS (.ix y) (.dict true (kvs.map fun kv => nk kv.1) ps) q' = (keyT y).bind fun k => (dget (kvs.map fun kv => nk kv.1) ps k).map fun _ => .dict true (kvs.map fun kv => nk kv.1) (dputV (kvs.map fun kv => nk kv.1) ps k q') := by cases y <;> rfl
          rw [this, ek]
          show (dget (kvs.map fun kv => nk kv.1) ps (nk k')).map _ = _
          have e : dget (kvs.map fun kv => nk kv.1) ps (nk k') = some q := e
          rw [e]
          show some _ = _
          rw [e4]
        · have := k st' Z' w q' a' hz (fun m z => hb m (by (try dsimp only at *); omega)) zz r'
          rw [set_same e2] at this
          exact .dictO ⟨by rw [hb n (by show 1 ≤ (if n = n then 1 else 0) + b n; rw [if_pos rfl]; omega)]; exact h1.1, h1.2⟩ this fun m => by (try dsimp only at *); omega
  | @objO n cl fs ps c d h1 r hc =>
    cases s with
    | ix y => cases y <;> cases e
    | fld f =>
      have e : fget (fs.map (·.1)) ps f = some q := e
      obtain ⟨i, w, e1, e2, e3, e4⟩ := fget_at r e
      obtain ⟨w2, a, b, e5, r1, e6, k⟩ := r.at_ e1
      rw [e2] at e5; cases e5
      refine ⟨w, a, fun m => (if m = n then 1 else 0) + b m, ?_, r1, fun m => by rw [hc, e6]; ((try dsimp only at *); omega), fun st' Z' q' a' hz hb zz r' => ⟨.obj true cl (fs.map (·.1)) (ps.set i q'), ?_, ?_⟩⟩
      · show (match st[n]? with | some (.inst _ fs) => fs.lookup f | _ => Option.none) = _
        rw [h1]; exact e3
      · show (fget (fs.map (·.1)) ps f).map _ = _
        rw [e]
        show some _ = _
        rw [e4]
      · have := k st' Z' w q' a' hz (fun m z => hb m (by (try dsimp only at *); omega)) zz r'
        rw [set_same e2] at this
        exact .objO (by rw [hb n (by show 1 ≤ (if n = n then 1 else 0) + b n; rw [if_pos rfl]; omega)]; exact h1) this fun m => by (try dsimp only at *); omega
theorem Rep.path : ∀ {pa : List Stp} {v : Val} {p q : PV} {c : Cn}, Rep st Z v p c → ownP pa p = true → getP pa p = some q → ∃ (w : Val) (a b : Cn), valP st pa v = some w ∧ Rep st Z w q a ∧ (∀ n, c n = a n + b n) ∧
    ∀ (st' : Store) (Z' : Nat → Prop) (q' : PV) (a' : Cn), (∀ n, Z n → st'[n]? = st[n]?) → (∀ n, 1 ≤ b n → st'[n]? = st[n]?) → (∀ n, Z n → Z' n) → Rep st' Z' w q' a' → ∃ p', setP pa p q' = some p' ∧ Rep st' Z' v p' fun n => a' n + b n
  | [], v, p, q, c, h, _, e => by
    cases e
    exact ⟨v, c, z0, rfl, h, fun n => rfl, fun st' Z' q' a' _ _ _ r => ⟨q', rfl, r.cong fun n => rfl⟩⟩
  | s :: pa, v, p, q, c, h, o, e => by
    have o : (p.ownT && (match getS s p with | some x => ownP pa x | Option.none => false)) = true := o
    have e : (getS s p).bind (getP pa) = some q := e
    rw [Bool.and_eq_true] at o
    cases e1 : getS s p with
    | none => rw [e1] at e; cases e
    | some x =>
      rw [e1] at e o
      obtain ⟨w, a, b, e2, r, e3, k⟩ := h.step o.1 e1
      obtain ⟨w', a', b', e4, r', e5, k'⟩ := Rep.path (pa := pa) r o.2 e
      refine ⟨w', a', fun n => b' n + b n, ?_, r', fun n => by rw [e3, e5]; ((try dsimp only at *); omega), fun st' Z' q' a2 hz hb zz r2 => ?_⟩
      · show (stepV st s v).bind (valP st pa) = _
        rw [e2]; exact e4
      · obtain ⟨x', e6, r3⟩ := k' st' Z' q' a2 hz (fun n z => hb n (by (try dsimp only at *); omega)) zz r2
        obtain ⟨p', e7, r4⟩ := k st' Z' x' _ hz (fun n z => hb n (by (try dsimp only at *); omega)) zz r3
        refine ⟨p', ?_, r4.cong fun n => by (try dsimp only at *); omega⟩
        show (getS s p).bind (fun x => (setP pa x q').bind fun x' => setS s p x') = _
        rw [e1]
        show (setP pa x q').bind (fun x' => setS s p x') = _
        rw [e6]; exact e7
end
end Ev

set_option Elab.async false
set_option linter.all false
set_option maxRecDepth 100000
set_option maxHeartbeats 1000000
/-! ## Slots, what changes, what stays -/
namespace Ev
open PySem
section
variable (st : Store) (Z : Nat → Prop)
inductive ER : Env → PEnv → Cn → Prop
  | nil {c : Cn} : (∀ n, c n = 0) → ER [] [] c
  | hole {x : Option Val} {e : Env} {p : PEnv} {c : Cn} : ER e p c → ER (x :: e) (none :: p) c
  | val {v : Val} {q : PV} {e : Env} {p : PEnv} {a b c : Cn} : Rep st Z v q a → ER e p b → (∀ n, c n = a n + b n) → ER (some v :: e) (some q :: p) c
structure Wf (c : Cn) : Prop where
  one : ∀ n, c n ≤ 1
  nz : ∀ n, 1 ≤ c n → ¬ Z n
  lt : ∀ n, 1 ≤ c n → n < st.length
  zl : ∀ n, Z n → n < st.length
structure Go (c : Cn) (k : Bool) (st' : Store) (Z' : Nat → Prop) (c' : Cn) : Prop where
  len : st.length ≤ st'.length
  keep : ∀ n, n < st.length → (k = true ∨ c n = 0) → st'[n]? = st[n]?
  zz : ∀ n, Z n → Z' n
  zn : ∀ n, n < st.length → Z' n → Z n ∨ 1 ≤ c n
  on : ∀ n, n < st.length → 1 ≤ c' n → 1 ≤ c n
end
section
variable {st st' st1 st2 : Store} {Z Z' Z1 Z2 : Nat → Prop} {c c' c1 c2 d x : Cn} {k k' : Bool}
theorem Wf.mono (h : Wf st Z c) (e : ∀ n, d n ≤ c n) : Wf st Z d := ⟨fun n => Nat.le_trans (e n) (h.one n), fun n q => h.nz n (Nat.le_trans q (e n)), fun n q => h.lt n (Nat.le_trans q (e n)), h.zl⟩
theorem Go.refl (e : ∀ n, d n ≤ c n) : Go st Z c k st Z d := ⟨Nat.le_refl _, fun _ _ _ => rfl, fun _ h => h, fun _ _ h => .inl h, fun n _ q => Nat.le_trans q (e n)⟩
theorem Go.trans (g : Go st Z c k st1 Z1 c1) (g' : Go st1 Z1 c1 k' st2 Z2 c2) : Go st Z c (k && k') st2 Z2 c2 := by
  refine ⟨Nat.le_trans g.len g'.len, fun n hn q => ?_, fun n q => g'.zz n (g.zz n q), fun n hn q => ?_, fun n hn q => g.on n hn (g'.on n (Nat.lt_of_lt_of_le hn g.len) q)⟩
  · have h1 : st1[n]? = st[n]? := g.keep n hn (q.imp (fun q => (Bool.and_eq_true_iff.mp q).1) id)
    rw [← h1]
    refine g'.keep n (Nat.lt_of_lt_of_le hn g.len) ?_
    rcases q with q | q
    · exact .inl (Bool.and_eq_true_iff.mp q).2
    · refine .inr ?_
      cases e : c1 n with
      | zero => rfl
      | succ j => have := g.on n hn (by omega); omega
  · rcases g'.zn n (Nat.lt_of_lt_of_le hn g.len) q with q | q
    · exact g.zn n hn q
    · exact .inr (g.on n hn q)
theorem Go.weak (g : Go st Z c k st' Z' c') (e : ∀ n, d n ≤ c' n) : Go st Z c k st' Z' d := ⟨g.len, g.keep, g.zz, g.zn, fun n hn q => g.on n hn (Nat.le_trans q (e n))⟩
theorem Go.wide (g : Go st Z c k st' Z' c') (e : ∀ n, c n ≤ d n) : Go st Z d k st' Z' c' := ⟨g.len, fun n hn q => g.keep n hn (q.imp id fun q => by have := e n; omega), g.zz, fun n hn q => (g.zn n hn q).imp id fun q => Nat.le_trans q (e n), fun n hn q => Nat.le_trans (g.on n hn q) (e n)⟩
/-- beside it stands something else -/
theorem Go.add (g : Go st Z c k st' Z' c') : Go st Z (fun n => x n + c n) k st' Z' (fun n => x n + c' n) := ⟨g.len, fun n hn q => g.keep n hn (q.imp id fun q => by omega), g.zz, fun n hn q => (g.zn n hn q).imp id fun q => by (try dsimp only); omega, fun n hn q => by
  (try dsimp only at *)
  have := g.on n hn
  by_cases h : 1 ≤ c' n
  · have := this h; omega
  · omega⟩
theorem Go.calmer (g : Go st Z c true st' Z' c') : Go st Z c k st' Z' c' := ⟨g.len, fun n hn _ => g.keep n hn (.inl rfl), g.zz, g.zn, g.on⟩
theorem Go.cast (g : Go st Z c k st' Z' c') (e : k = true → k' = true) (e' : k' = true → k = true) : Go st Z c k' st' Z' c' := by
  have : k = k' := by cases k <;> cases k' <;> simp_all
  rw [← this]; exact g
theorem Wf.frame (w : Wf st Z fun n => x n + c n) (g : Go st Z c k st' Z' c') (w' : Wf st' Z' c') : Wf st' Z' fun n => x n + c' n := by
  have key : ∀ n, 1 ≤ x n → c' n = 0 ∧ ¬ Z' n ∧ n < st.length := fun n q => by
    have h1 := w.one n
    (try dsimp only at h1)
    have hl := w.lt n (by (try dsimp only); omega)
    refine ⟨?_, fun z => ?_, hl⟩
    · cases e : c' n with
      | zero => rfl
      | succ j => have := g.on n hl (by omega); omega
    · rcases g.zn n hl z with z | z
      · exact w.nz n (by (try dsimp only); omega) z
      · omega
  refine ⟨fun n => ?_, fun n q => ?_, fun n q => ?_, w'.zl⟩
  · (try dsimp only)
    have h1 := w.one n
    have h2 := w'.one n
    (try dsimp only at h1)
    by_cases q : 1 ≤ x n
    · have := (key n q).1; omega
    · omega
  · (try dsimp only at q)
    by_cases q1 : 1 ≤ x n
    · exact (key n q1).2.1
    · exact w'.nz n (by omega)
  · (try dsimp only at q)
    by_cases q1 : 1 ≤ x n
    · exact Nat.lt_of_lt_of_le (key n q1).2.2 g.len
    · exact w'.lt n (by omega)
/-- what else stands, stays -/
theorem Rep.keep {v : Val} {p : PV} (r : Rep st Z v p x) (w : Wf st Z fun n => x n + c n) (g : Go st Z c k st' Z' c') : Rep st' Z' v p x :=
  r.frame (fun n z => g.keep n (w.zl n z) (.inr (by cases e : c n with | zero => rfl | succ j => exact absurd z (w.nz n (by (try dsimp only); omega))))) g.zz fun n q => g.keep n (w.lt n (by (try dsimp only); omega)) (.inr (by have := w.one n; (try dsimp only at this); omega))
theorem Reps.keep {v : List Val} {p : List PV} (r : Reps st Z v p x) (w : Wf st Z fun n => x n + c n) (g : Go st Z c k st' Z' c') : Reps st' Z' v p x :=
  r.frame (fun n z => g.keep n (w.zl n z) (.inr (by cases e : c n with | zero => rfl | succ j => exact absurd z (w.nz n (by (try dsimp only); omega))))) g.zz fun n q => g.keep n (w.lt n (by (try dsimp only); omega)) (.inr (by have := w.one n; (try dsimp only at this); omega))

/-! slots -/
variable {e : Env} {p : PEnv}
theorem ER.cong (h : ER st Z e p c) (q : ∀ n, d n = c n) : ER st Z e p d := by
  have : d = c := funext q
  rw [this]; exact h
theorem ER.length : ∀ {e : Env} {p : PEnv} {c : Cn}, ER st Z e p c → e.length = p.length
  | _, _, _, .nil _ => rfl
  | _, _, _, .hole h => by rw [List.length_cons, List.length_cons, h.length]
  | _, _, _, .val _ h _ => by rw [List.length_cons, List.length_cons, h.length]
theorem ER.frame (hz : ∀ n, Z n → st'[n]? = st[n]?) (zz : ∀ n, Z n → Z' n) : ∀ {e : Env} {p : PEnv} {c : Cn}, ER st Z e p c → (∀ n, 1 ≤ c n → st'[n]? = st[n]?) → ER st' Z' e p c
  | _, _, _, .nil z, _ => .nil z
  | _, _, _, .hole h, k => .hole (h.frame hz zz k)
  | _, _, _, .val r h z, k => .val (r.frame hz zz fun n q => k n (by rw [z]; omega)) (h.frame hz zz fun n q => k n (by rw [z]; omega)) z
theorem ER.keep (r : ER st Z e p x) (w : Wf st Z fun n => x n + c n) (g : Go st Z c k st' Z' c') : ER st' Z' e p x :=
  r.frame (fun n z => g.keep n (w.zl n z) (.inr (by cases e : c n with | zero => rfl | succ j => exact absurd z (w.nz n (by (try dsimp only); omega))))) g.zz fun n q => g.keep n (w.lt n (by (try dsimp only); omega)) (.inr (by have := w.one n; (try dsimp only at this); omega))
theorem ER.at_ : ∀ {e : Env} {p : PEnv} {c : Cn} {i : Nat} {q : PV}, ER st Z e p c → p[i]? = some (some q) → ∃ (v : Val) (a b : Cn), e[i]? = some (some v) ∧ Rep st Z v q a ∧ (∀ n, c n = a n + b n) ∧
    (∀ (st' : Store) (Z' : Nat → Prop) (v' : Val) (q' : PV) (a' : Cn), (∀ n, Z n → st'[n]? = st[n]?) → (∀ n, 1 ≤ b n → st'[n]? = st[n]?) → (∀ n, Z n → Z' n) → Rep st' Z' v' q' a' → ER st' Z' (e.set i (some v')) (p.set i (some q')) fun n => a' n + b n) ∧
    ER st Z e (p.set i none) b
  | _, _, _, i, q, .nil z, h => by simp at h
  | _, _, _, 0, q, .hole t, h => by simp at h
  | _, _, _, i + 1, q, .hole t, h => by
    obtain ⟨v, a, b, e1, r, e2, k, k2⟩ := ER.at_ t (i := i) (q := q) (by simpa using h)
    exact ⟨v, a, b, by simpa using e1, r, e2, fun st' Z' v' q' a' hz hb zz r' => .hole (k st' Z' v' q' a' hz hb zz r'), .hole k2⟩
  | _, _, _, 0, q, .val (a := a) (b := b) r t z, h => by
    simp at h; subst h
    exact ⟨_, a, b, rfl, r, z, fun st' Z' v' q' a' hz hb zz r' => .val r' (t.frame hz zz hb) fun n => rfl, .hole t⟩
  | _, _, _, i + 1, q, .val (a := a) r t z, h => by
    obtain ⟨v, a1, b1, e1, r1, e2, k, k2⟩ := ER.at_ t (i := i) (q := q) (by simpa using h)
    refine ⟨v, a1, fun n => a n + b1 n, by simpa using e1, r1, fun n => by rw [z, e2]; (try dsimp only); omega, fun st' Z' v' q' a' hz hb zz r' => ?_, ?_⟩
    · exact .val (r.frame hz zz fun n q => hb n (by (try dsimp only); omega)) (k st' Z' v' q' a' hz (fun n q => hb n (by (try dsimp only); omega)) zz r') fun n => by (try dsimp only); omega
    · exact .val r k2 fun n => rfl
/-- a slot is set -/
theorem ER.set : ∀ {e : Env} {p : PEnv} {c a : Cn} {v : Val} {q : PV} (i : Nat), ER st Z e p c → Rep st Z v q a → ∃ d, ER st Z (e.set i (some v)) (p.set i (some q)) d ∧ ∀ n, d n ≤ a n + c n
  | _, _, c, a, v, q, i, .nil z, r => ⟨c, .nil z, fun n => by omega⟩
  | _, _, c, a, v, q, 0, .hole t, r => ⟨fun n => a n + c n, .val r t fun n => rfl, fun n => Nat.le_refl _⟩
  | _, _, c, a, v, q, 0, .val (b := b) r1 t z, r => ⟨fun n => a n + b n, .val r t fun n => rfl, fun n => by (try dsimp only); rw [z]; omega⟩
  | _, _, c, a, v, q, i + 1, .hole t, r => by
    obtain ⟨d, h, k⟩ := ER.set i t r
    exact ⟨d, .hole h, k⟩
  | _, _, c, a, v, q, i + 1, .val (a := a1) r1 t z, r => by
    obtain ⟨d, h, k⟩ := ER.set i t r
    exact ⟨fun n => a1 n + d n, .val r1 h fun n => rfl, fun n => by have := k n; (try dsimp only); rw [z]; omega⟩
/-- a slot is forgotten -/
theorem ER.forget : ∀ {e : Env} {p : PEnv} {c : Cn} (i : Nat) (x : Option Val), ER st Z e p c → ∃ d, ER st Z (e.set i x) (p.set i none) d ∧ ∀ n, d n ≤ c n
  | _, _, c, i, x, .nil z => ⟨c, .nil z, fun n => by omega⟩
  | _, _, c, 0, x, .hole t => ⟨c, .hole t, fun n => Nat.le_refl _⟩
  | _, _, c, 0, x, .val (b := b) r1 t z => ⟨b, .hole t, fun n => by rw [z]; omega⟩
  | _, _, c, i + 1, x, .hole t => by
    obtain ⟨d, h, k⟩ := ER.forget i x t
    exact ⟨d, .hole h, k⟩
  | _, _, c, i + 1, x, .val (a := a1) r1 t z => by
    obtain ⟨d, h, k⟩ := ER.forget i x t
    exact ⟨fun n => a1 n + d n, .val r1 h fun n => rfl, fun n => by have := k n; (try dsimp only); rw [z]; omega⟩
theorem ER.forget1 (i : Nat) (h : ER st Z e p c) : ∃ d, ER st Z e (p.set i none) d ∧ ∀ n, d n ≤ c n := by
  by_cases hi : i < e.length
  · obtain ⟨d, h1, h2⟩ := h.forget i e[i]
    rw [List.set_getElem_self] at h1
    exact ⟨d, h1, h2⟩
  · rw [List.set_eq_of_length_le (by rw [← h.length]; omega)]
    exact ⟨c, h, fun n => Nat.le_refl _⟩
/-- some slots are shared -/
theorem ER.frzW : ∀ {e : Env} {p : PEnv} {c : Cn} (q : Nat → Bool), ER st Z e p c → ∃ x y : Cn, (∀ n, c n = x n + y n) ∧ (∀ (i : Nat) (u : PV), q i = true → p[i]? = some (some u) → ∃ (v : Val) (a : Cn), e[i]? = some (some v) ∧ Rep st Z v u a ∧ ∀ n, a n ≤ x n) ∧
    ∀ (st' : Store) (Z' : Nat → Prop), (∀ n, Z n → st'[n]? = st[n]?) → (∀ n, 1 ≤ c n → st'[n]? = st[n]?) → (∀ n, Z n → Z' n) → (∀ n, 1 ≤ x n → Z' n) → ER st' Z' e (frzWhere q p) y
  | _, _, c, q, .nil z => ⟨z0, z0, fun n => by rw [z]; rfl, fun i u _ h => by simp at h, fun st' Z' _ _ _ _ => .nil fun _ => rfl⟩
  | _, _, c, q, .hole (p := pp) t => by
    obtain ⟨x, y, h1, h2, h3⟩ := ER.frzW (fun n => q (n + 1)) t
    refine ⟨x, y, h1, fun i u hq hu => ?_, fun st' Z' hz hc zz hx => ?_⟩
    · cases i with
      | zero => simp at hu
      | succ i => exact h2 i u hq (by simpa using hu)
    · have : frzWhere q (none :: pp) = none :: frzWhere (fun n => q (n + 1)) pp := by
        show (if q 0 = true then (none : Option PV).map PV.frz else none) :: _ = _
        simp
      rw [this]
      exact .hole (h3 st' Z' hz hc zz hx)
  | _, _, c, q, .val (q := w) (p := pp) (a := a) (b := b) r t z => by
    obtain ⟨x, y, h1, h2, h3⟩ := ER.frzW (fun n => q (n + 1)) t
    cases hq0 : q 0 with
    | true =>
      refine ⟨fun n => a n + x n, y, fun n => by (try dsimp only); rw [z, h1]; omega, fun i u hq hu => ?_, fun st' Z' hz hc zz hx => ?_⟩
      · cases i with
        | zero => simp at hu; subst hu; exact ⟨_, a, rfl, r, fun n => by (try dsimp only); omega⟩
        | succ i =>
          obtain ⟨v, a', e1, r1, e2⟩ := h2 i u hq (by simpa using hu)
          exact ⟨v, a', by simpa using e1, r1, fun n => by have := e2 n; (try dsimp only); omega⟩
      · have : frzWhere q (some w :: pp) = some w.frz :: frzWhere (fun n => q (n + 1)) pp := by
          show (if q 0 = true then (some w).map PV.frz else some w) :: _ = _
          rw [hq0]; rfl
        rw [this]
        refine .val (a := z0) (Rep.frz (st := st') (Z := Z') (fun _ z => z) (r.frame hz zz fun n q => hc n (by rw [z]; omega)) fun n q => hx n (by (try dsimp only); omega)) (h3 st' Z' hz (fun n q => hc n (by rw [z]; omega)) zz fun n q => hx n (by (try dsimp only); omega)) fun n => by simp
    | false =>
      refine ⟨x, fun n => a n + y n, fun n => by (try dsimp only); rw [z, h1]; omega, fun i u hq hu => ?_, fun st' Z' hz hc zz hx => ?_⟩
      · cases i with
        | zero => rw [hq0] at hq; cases hq
        | succ i =>
          obtain ⟨v, a', e1, r1, e2⟩ := h2 i u hq (by simpa using hu)
          exact ⟨v, a', by simpa using e1, r1, e2⟩
      · have : frzWhere q (some w :: pp) = some w :: frzWhere (fun n => q (n + 1)) pp := by
          show (if q 0 = true then (some w).map PV.frz else some w) :: _ = _
          rw [hq0]; rfl
        rw [this]
        exact .val (r.frame hz zz fun n q => hc n (by rw [z]; omega)) (h3 st' Z' hz (fun n q => hc n (by rw [z]; omega)) zz hx) fun n => rfl

/-! values on their way -/
variable (st Z e) in
inductive BOk : List Val → List BV → Cn → Prop
  | nil {c : Cn} : (∀ n, c n = 0) → BOk [] [] c
  | tmp {v : Val} {q : PV} {vs : List Val} {bs : List BV} {a b c : Cn} : Rep st Z v q a → BOk vs bs b → (∀ n, c n = a n + b n) → BOk (v :: vs) (⟨q, none⟩ :: bs) c
  | pl {v rv : Val} {q : PV} {r : Nat} {pa : List Stp} {vs : List Val} {bs : List BV} {c : Cn} : e[r]? = some (some rv) → valP st pa rv = some v → BOk vs bs c → BOk (v :: vs) (⟨q, some (r, pa)⟩ :: bs) c
theorem BOk.cong {vs : List Val} {bs : List BV} (h : BOk st Z e vs bs c) (q : ∀ n, d n = c n) : BOk st Z e vs bs d := by
  have : d = c := funext q
  rw [this]; exact h
theorem BOk.one {v : Val} {q : PV} (h : Rep st Z v q c) : BOk st Z e [v] [⟨q, none⟩] c := .tmp h (.nil (c := z0) fun _ => rfl) fun n => rfl
theorem BOk.length : ∀ {vs : List Val} {bs : List BV} {c : Cn}, BOk st Z e vs bs c → vs.length = bs.length
  | _, _, _, .nil _ => rfl
  | _, _, _, .tmp _ h _ => by rw [List.length_cons, List.length_cons, h.length]
  | _, _, _, .pl _ _ h => by rw [List.length_cons, List.length_cons, h.length]
theorem stepV_mono (hk : ∀ n, n < st.length → st'[n]? = st[n]?) {s : Stp} {v w : Val} (h : stepV st s v = some w) : stepV st' s v = some w := by
  cases v with
  | ref n =>
    have hn : n < st.length := by
      by_cases hn : n < st.length
      · exact hn
      · exfalso
        have : st[n]? = none := List.getElem?_eq_none_iff.mpr (by omega)
        cases s with
        | ix y => cases y <;> simp [stepV, this] at h
        | fld f => simp [stepV, this] at h
    cases s with
    | ix y =>
      cases y <;> simp only [stepV, hk n hn] at h ⊢ <;> exact h
    | fld f => simp only [stepV, hk n hn] at h ⊢; exact h
  | _ =>
    cases s with
    | ix y => cases y <;> first | exact h | cases h
    | fld f => cases h
theorem valP_mono (hk : ∀ n, n < st.length → st'[n]? = st[n]?) : ∀ {pa : List Stp} {v w : Val}, valP st pa v = some w → valP st' pa v = some w
  | [], v, w, h => h
  | s :: pa, v, w, h => by
    have h : (stepV st s v).bind (valP st pa) = some w := h
    cases e1 : stepV st s v with
    | none => rw [e1] at h; cases h
    | some x =>
      rw [e1] at h
      show (stepV st' s v).bind (valP st' pa) = some w
      rw [stepV_mono hk e1]
      exact valP_mono hk h
/-- .. stay, what stands at a place if that is calm -/
theorem BOk.keep {vs : List Val} {bs : List BV} (h : BOk st Z e vs bs x) (hk : ∀ b ∈ bs, okPl b k = true) (w : Wf st Z fun n => x n + c n) (g : Go st Z c k st' Z' c') : BOk st' Z' e vs bs x := by
  induction h with
  | nil z => exact .nil z
  | @tmp v q vs bs a b c0 r t z ih =>
    refine .tmp (r.frame (fun n z' => g.keep n (w.zl n z') (.inr (by cases e : c n with | zero => rfl | succ j => exact absurd z' (w.nz n (by (try dsimp only); omega))))) g.zz fun n q => ?_) (ih (fun b hb => hk b (List.mem_cons_of_mem _ hb)) (w.mono fun n => by (try dsimp only); rw [z]; omega)) z
    have := w.one n
    have hz := z n
    (try dsimp only at this)
    exact g.keep n (w.lt n (by (try dsimp only); omega)) (.inr (by omega))
  | @pl v rv q r pa vs bs c0 e1 e2 t ih =>
    refine .pl e1 ?_ (ih (fun b hb => hk b (List.mem_cons_of_mem _ hb)) w)
    have := hk _ List.mem_cons_self
    cases pa with
    | nil => exact e2
    | cons s pa =>
      have hk1 : k = true := by simpa [okPl] using this
      exact valP_mono (fun n hn => g.keep n hn (.inl hk1)) e2
/-- what stands at a place now -/
theorem ER.getE {r : Nat} {pa : List Stp} {q : PV} (h : ER st Z e p c) (g : getE p r pa = some q) : ∃ (rv w : Val) (a b : Cn), e[r]? = some (some rv) ∧ valP st pa rv = some w ∧ Rep st Z w q a ∧ (∀ n, c n = a n + b n) ∧
    ∀ (st' : Store) (Z' : Nat → Prop) (q' : PV) (a' : Cn), (∀ n, Z n → st'[n]? = st[n]?) → (∀ n, 1 ≤ b n → st'[n]? = st[n]?) → (∀ n, Z n → Z' n) → Rep st' Z' w q' a' → ∃ p', putE p r pa q' = some p' ∧ ER st' Z' e p' fun n => a' n + b n := by
  unfold Ev.getE at g
  split at g
  · rename_i root hr
    split at g
    · rename_i ho
      obtain ⟨rv, a, b, e1, r1, e2, k, _⟩ := h.at_ hr
      obtain ⟨w, a2, b2, e3, r2, e4, k2⟩ := r1.path ho g
      refine ⟨rv, w, a2, fun n => b2 n + b n, e1, e3, r2, fun n => by (try dsimp only); rw [e2, e4]; omega, fun st' Z' q' a' hz hb zz r' => ?_⟩
      obtain ⟨p', e5, r3⟩ := k2 st' Z' q' a' hz (fun n q => hb n (by (try dsimp only); omega)) zz r'
      refine ⟨p.set r (some p'), ?_, ?_⟩
      · unfold putE
        rw [hr]
        show (setP pa root q').map _ = _
        rw [e5]; rfl
      · have := k st' Z' rv p' _ hz (fun n q => hb n (by (try dsimp only); omega)) zz r3
        rw [set_same e1] at this
        exact this.cong fun n => by (try dsimp only); omega
    · cases g
  · cases g
/-- what a thing on its way is now -/
theorem cur_ok {v : Val} {b : BV} {q : PV} (hb : BOk st Z e [v] [b] x) (h : ER st Z e p c) (g : cur b p = some q) : ∃ a, Rep st Z v q a ∧ ∀ n, a n ≤ x n + c n := by
  cases hb with
  | tmp r t z =>
    cases g
    exact ⟨_, r, fun n => by rw [z]; omega⟩
  | pl e1 e2 t =>
    obtain ⟨rv, w, a, b, e3, e4, r, e5, _⟩ := h.getE g
    rw [e1] at e3; cases e3
    rw [e2] at e4; cases e4
    exact ⟨a, r, fun n => by rw [e5]; omega⟩
theorem curs_ok : ∀ {vs : List Val} {bs : List BV} {qs : List PV} {x : Cn}, BOk st Z e vs bs x → ER st Z e p c → curs bs p = some qs → ∃ as, Reps st Z vs qs as
  | _, _, qs, _, .nil z, h, g => by cases g; exact ⟨z0, .nil fun _ => rfl⟩
  | _, _, qs, _, .tmp (bs := bs) r t z, h, g => by
    have g : (curs bs p).map _ = some qs := g
    cases e1 : curs bs p with
    | none => rw [e1] at g; cases g
    | some us =>
      rw [e1] at g; cases g
      obtain ⟨as, ra⟩ := curs_ok t h e1
      exact ⟨_, .cons r ra fun n => rfl⟩
  | _, _, qs, _, .pl (q := u) (r := r) (pa := pa) (bs := bs) e1 e2 t, h, g => by
    have g : (Ev.getE p r pa).bind (fun v => (curs bs p).map (v :: ·)) = some qs := g
    cases e3 : Ev.getE p r pa with
    | none => rw [e3] at g; cases g
    | some y =>
      rw [e3] at g
      have g : (curs bs p).map (y :: ·) = some qs := g
      cases e4 : curs bs p with
      | none => rw [e4] at g; cases g
      | some us =>
        rw [e4] at g; cases g
        obtain ⟨as, ra⟩ := curs_ok t h e4
        obtain ⟨rv, w, a, b, e5, e6, r1, _⟩ := h.getE e3
        rw [e1] at e5; cases e5
        rw [e2] at e6; cases e6
        exact ⟨_, .cons r1 ra fun n => rfl⟩
theorem tvals_ok : ∀ {vs : List Val} {bs : List BV} {qs : List PV} {x : Cn}, BOk st Z e vs bs x → tvals bs = some qs → Reps st Z vs qs x
  | _, _, qs, _, .nil z, g => by cases g; exact .nil z
  | _, _, qs, _, .tmp (bs := bs) r t z, g => by
    have g : (tvals bs).map _ = some qs := g
    cases e1 : tvals bs with
    | none => rw [e1] at g; cases g
    | some us =>
      rw [e1] at g; cases g
      exact .cons r (tvals_ok t e1) z
  | _, _, qs, _, .pl e1 e2 t, g => by cases g
end
end Ev

set_option Elab.async false
set_option linter.all false
set_option maxRecDepth 100000
set_option maxHeartbeats 1000000
/-! ## Operations: as over the store -/
namespace Ev
open PySem
section
variable {st st' : Store} {Z Z' : Nat → Prop} {c d : Cn} {v w : Val} {p q : PV}
theorem listAt_of {n : Nat} {xs : List Val} (h : st[n]? = some (.lst xs)) : listAt st n = some xs := by unfold listAt; rw [h]
theorem listAt_ro {n : Nat} {xs : List Val} (h : st[n]? = some (.ro xs)) : listAt st n = some xs := by unfold listAt; rw [h]
theorem Rep.list {o : Bool} {ps : List PV} (h : Rep st Z v (.lst o ps) c) : ∃ (n : Nat) (xs : List Val) (a : Cn), v = .ref n ∧ st[n]? = some (.lst xs) ∧ Reps st Z xs ps a ∧ ∀ m, a m ≤ c m := by
  cases h with
  | lstF h1 h2 r z => exact ⟨_, _, _, rfl, h1, r, fun m => Nat.le_refl _⟩
  | lstO h1 r z => exact ⟨_, _, _, rfl, h1, r, fun m => by rw [z]; omega⟩
mutual
theorem pD_dat : ∀ (k : Nat) (v : Val) (p : PV) (d : PyData) (c : Cn), Rep st Z v p c → pD k p = some d → toD st k v = some d
  | k, _, _, d, _, .none _, h => by unfold pD at h; unfold toD; exact h
  | k, _, _, d, _, .bool _ _, h => by unfold pD at h; unfold toD; exact h
  | k, _, _, d, _, .int _ _, h => by unfold pD at h; unfold toD; exact h
  | k, _, _, d, _, .str _ _, h => by unfold pD at h; unfold toD; exact h
  | 0, _, _, d, _, .tup r, h => by cases h
  | k + 1, _, _, d, _, .tup (xs := xs) (ps := ps) r, h => by
    have h : (ps.mapM (pD k)).map PyData.tuple = some d := by unfold pD at h; exact h
    cases e : ps.mapM (pD k) with
    | none => rw [e] at h; cases h
    | some ds =>
      rw [e] at h
      show (xs.mapM (toD st k)).map PyData.tuple = some d
      rw [pDs_dat k _ _ ds _ r e]; exact h
  | _, _, _, d, _, .ro _ _ _ _, h => by unfold pD at h; cases h
  | 0, _, _, d, _, .lstF _ _ _ _, h => by cases h
  | k + 1, _, _, d, _, .lstF (n := n) (xs := xs) (ps := ps) h1 h2 r z, h => by
    have h : (ps.mapM (pD k)).map PyData.list = some d := by unfold pD at h; exact h
    cases e : ps.mapM (pD k) with
    | none => rw [e] at h; cases h
    | some ds =>
      rw [e] at h
      show ((listAt st n).bind fun xs => (xs.mapM (toD st k)).map PyData.list) = some d
      rw [listAt_of h1]
      show (xs.mapM (toD st k)).map PyData.list = some d
      rw [pDs_dat k _ _ ds _ r e]; exact h
  | 0, _, _, d, _, .lstO _ _ _, h => by cases h
  | k + 1, _, _, d, _, .lstO (n := n) (xs := xs) (ps := ps) h1 r z, h => by
    have h : (ps.mapM (pD k)).map PyData.list = some d := by unfold pD at h; exact h
    cases e : ps.mapM (pD k) with
    | none => rw [e] at h; cases h
    | some ds =>
      rw [e] at h
      show ((listAt st n).bind fun xs => (xs.mapM (toD st k)).map PyData.list) = some d
      rw [listAt_of h1]
      show (xs.mapM (toD st k)).map PyData.list = some d
      rw [pDs_dat k _ _ ds _ r e]; exact h
  | _, _, _, d, _, .dictF _ _ _ _, h => by unfold pD at h; cases h
  | _, _, _, d, _, .dictO _ _ _, h => by unfold pD at h; cases h
  | _, _, _, d, _, .objF _ _ _ _, h => by unfold pD at h; cases h
  | _, _, _, d, _, .objO _ _ _, h => by unfold pD at h; cases h
theorem pDs_dat : ∀ (k : Nat) (v : List Val) (p : List PV) (d : List PyData) (c : Cn), Reps st Z v p c → p.mapM (pD k) = some d → v.mapM (toD st k) = some d
  | k, _, _, d, _, .nil _, h => by simpa using h
  | k, _, _, d, _, .cons (x := x) (p := y) (xs := xs) (ps := ps) r t _, h => by
    rw [List.mapM_cons] at h ⊢
    cases e1 : pD k y with
    | none => rw [e1] at h; cases h
    | some y' =>
      rw [e1] at h
      rw [pD_dat k _ _ _ _ r e1]
      cases e2 : ps.mapM (pD k) with
      | none => rw [e2] at h; cases h
      | some ds =>
        rw [e2] at h
        rw [pDs_dat k _ _ _ _ t e2]
        exact h
end
theorem scal_eq (r : Rep st Z v p c) (s : Rep st Z w q d) : scalB v w = pscal p q := by
  cases r <;> cases s <;> rfl
theorem pq_eq {b : Bool} (r : Rep st Z v p c) (s : Rep st Z w q d) (h : peqM p q = some b) : eqM st v w = some b := by
  unfold peqM at h
  unfold eqM
  rw [scal_eq r s]
  split at h
  · rename_i e; (try rw [e]); exact h
  · rename_i e
    (try rw [e])
    split at h
    · rename_i d1 e1 h1 h2
      rw [pD_dat _ _ _ _ _ r h1, pD_dat _ _ _ _ _ s h2]
      exact h
    · cases h
theorem flat_eq (r : Rep st Z v p c) : flatB v = pflat p := by cases r <;> rfl
theorem flatEq_eq (r : Rep st Z v p c) (s : Rep st Z w q d) (h : pflat p = true) (h' : pflat q = true) : flatEq v w = pflatEq p q := by
  cases r <;> cases s <;> first | rfl | (cases h; done) | (cases h'; done)
theorem flats_eq : ∀ {xs : List Val} {ps : List PV} {c : Cn}, Reps st Z xs ps c → xs.all flatB = ps.all pflat
  | _, _, _, .nil _ => rfl
  | _, _, _, .cons r t _ => by rw [List.all_cons, List.all_cons, flat_eq r, flats_eq t]
theorem anyF_eq (s : Rep st Z w q d) (hq : pflat q = true) : ∀ {xs : List Val} {ps : List PV} {c : Cn}, Reps st Z xs ps c → ps.all pflat = true → (xs.any fun y => flatEq y w) = ps.any fun y => pflatEq y q
  | _, _, _, .nil _, _ => rfl
  | _, _, _, .cons r t _, h => by
    rw [List.all_cons, Bool.and_eq_true] at h
    rw [List.any_cons, List.any_cons, flatEq_eq r s h.1 hq, anyF_eq s hq t h.2]
theorem findF_eq (s : Rep st Z w q d) (hq : pflat q = true) : ∀ {xs : List Val} {ps : List PV} {c : Cn}, Reps st Z xs ps c → ps.all pflat = true → (xs.findIdx? fun y => flatEq y w) = ps.findIdx? fun y => pflatEq y q
  | _, _, _, .nil _, _ => rfl
  | _, _, _, .cons r t _, h => by
    rw [List.all_cons, Bool.and_eq_true] at h
    rw [List.findIdx?_cons, List.findIdx?_cons, flatEq_eq r s h.1 hq, findF_eq s hq t h.2]
theorem countF_eq (s : Rep st Z w q d) (hq : pflat q = true) : ∀ {xs : List Val} {ps : List PV} {c : Cn}, Reps st Z xs ps c → ps.all pflat = true → (xs.countP fun y => flatEq y w) = ps.countP fun y => pflatEq y q
  | _, _, _, .nil _, _ => rfl
  | _, _, _, .cons r t _, h => by
    rw [List.all_cons, Bool.and_eq_true] at h
    rw [List.countP_cons, List.countP_cons, flatEq_eq r s h.1 hq, countF_eq s hq t h.2]
theorem ints_eq : ∀ {xs : List Val} {ps : List PV} {c : Cn}, Reps st Z xs ps c → allInts xs = pInts ps
  | _, _, _, .nil _ => rfl
  | _, _, _, .cons r t _ => by
    have := ints_eq t
    cases r <;> first | rfl | (simp only [allInts, pInts, this])
theorem bools_eq : ∀ {xs : List Val} {ps : List PV} {c : Cn}, Reps st Z xs ps c → allBools xs = pBools ps
  | _, _, _, .nil _ => rfl
  | _, _, _, .cons r t _ => by
    have := bools_eq t
    cases r <;> first | rfl | (simp only [allBools, pBools, this])
theorem pq_in {b : Bool} (r : Rep st Z v p c) (s : Rep st Z w q d) (h : pinM p q = some b) : inM st v w = some b := by
  unfold pinM at h
  unfold inM
  cases s with
  | @tup xs ps d t =>
    have h : (if pflat p = true ∧ ps.all pflat = true then some (ps.any fun y => pflatEq y p) else none) = some b := h
    show (if flatB v = true ∧ xs.all flatB = true then some (xs.any fun y => flatEq y v) else none) = some b
    rw [flat_eq r, flats_eq t]
    split at h
    · rename_i hh; rw [if_pos hh, anyF_eq r hh.1 t hh.2]; exact h
    · cases h
  | @lstF n xs ps d h1 h2 t z =>
    have h : (if pflat p = true ∧ ps.all pflat = true then some (ps.any fun y => pflatEq y p) else none) = some b := h
    show (listAt st n).bind (fun xs => if flatB v = true ∧ xs.all flatB = true then some (xs.any fun y => flatEq y v) else none) = some b
    rw [listAt_of h1]
    show (if flatB v = true ∧ xs.all flatB = true then some (xs.any fun y => flatEq y v) else none) = some b
    rw [flat_eq r, flats_eq t]
    split at h
    · rename_i hh; rw [if_pos hh, anyF_eq r hh.1 t hh.2]; exact h
    · cases h
  | @lstO n xs ps d _ h1 t z =>
    have h : (if pflat p = true ∧ ps.all pflat = true then some (ps.any fun y => pflatEq y p) else none) = some b := h
    show (listAt st n).bind (fun xs => if flatB v = true ∧ xs.all flatB = true then some (xs.any fun y => flatEq y v) else none) = some b
    rw [listAt_of h1]
    show (if flatB v = true ∧ xs.all flatB = true then some (xs.any fun y => flatEq y v) else none) = some b
    rw [flat_eq r, flats_eq t]
    split at h
    · rename_i hh; rw [if_pos hh, anyF_eq r hh.1 t hh.2]; exact h
    · cases h
  | _ => cases h
theorem pq_cmp {op : Cop} {r : PV} (a : Rep st Z v p c) (b : Rep st Z w q d) (h : pcmp op p q = some r) : ∃ t, r = .bool t ∧ cmpop op v w st = .ok (.bool t) st := by
  cases op with
  | eq =>
    have h : (peqM p q).map PV.bool = some r := h
    cases e : peqM p q with
    | none => rw [e] at h; cases h
    | some t => rw [e] at h; cases h; exact ⟨t, rfl, by show optB (eqM st v w) false st = _; rw [pq_eq a b e]; rfl⟩
  | ne =>
    have h : (peqM p q).map (fun r => PV.bool (!r)) = some r := h
    cases e : peqM p q with
    | none => rw [e] at h; cases h
    | some t => rw [e] at h; cases h; exact ⟨!t, rfl, by show optB (eqM st v w) true st = _; rw [pq_eq a b e]; rfl⟩
  | isin =>
    have h : (pinM p q).map PV.bool = some r := h
    cases e : pinM p q with
    | none => rw [e] at h; cases h
    | some t => rw [e] at h; cases h; exact ⟨t, rfl, by show optB (inM st v w) false st = _; rw [pq_in a b e]; rfl⟩
  | notin =>
    have h : (pinM p q).map (fun r => PV.bool (!r)) = some r := h
    cases e : pinM p q with
    | none => rw [e] at h; cases h
    | some t => rw [e] at h; cases h; exact ⟨!t, rfl, by show optB (inM st v w) true st = _; rw [pq_in a b e]; rfl⟩
  | is_ => cases b <;> first | (cases h; cases a <;> exact ⟨_, rfl, rfl⟩) | cases h
  | isnot => cases b <;> first | (cases h; cases a <;> exact ⟨_, rfl, rfl⟩) | cases h
  | lt => cases a <;> first | (cases b <;> first | (cases h; exact ⟨_, rfl, rfl⟩) | cases h) | (cases h)
  | le => cases a <;> first | (cases b <;> first | (cases h; exact ⟨_, rfl, rfl⟩) | cases h) | (cases h)
  | gt => cases a <;> first | (cases b <;> first | (cases h; exact ⟨_, rfl, rfl⟩) | cases h) | (cases h)
  | ge => cases a <;> first | (cases b <;> first | (cases h; exact ⟨_, rfl, rfl⟩) | cases h) | (cases h)
theorem pq_truth {b : Bool} (r : Rep st Z v p c) (h : ptruth p = some b) : truth st v = some b := by
  cases r with
  | @tup xs ps c t => cases h; show some (!xs.isEmpty) = _; cases t <;> rfl
  | @ro n xs ps c h1 h2 t z => cases h; show (listAt st n).map _ = _; rw [listAt_ro h1]; cases t <;> rfl
  | @lstF n xs ps c h1 h2 t z => cases h; show (listAt st n).map _ = _; rw [listAt_of h1]; cases t <;> rfl
  | @lstO n xs ps c _ h1 t z => cases h; show (listAt st n).map _ = _; rw [listAt_of h1]; cases t <;> rfl
  | none => exact h
  | bool => exact h
  | int => exact h
  | str => exact h
  | _ => cases h
theorem pq_inst {t : Ty} {b : Bool} (r : Rep st Z v p c) (h : pisInst t p = some b) : isInst t st v = some b := by
  cases r with
  | @lstF n xs ps c h1 h2 t z => cases h; show (match st[n]? with | some (.lst _) => _ | _ => _) = _; rw [h1]
  | @lstO n xs ps c _ h1 t z => cases h; show (match st[n]? with | some (.lst _) => _ | _ => _) = _; rw [h1]
  | none => exact h
  | bool => exact h
  | int => exact h
  | str => exact h
  | tup => exact h
  | _ => cases h
/-- a new thing: nobody's, or a new list of what is nobody's -/
inductive NewR (st : Store) (Z : Nat → Prop) : Val → PV → Store → Prop
  | here {w : Val} {r : PV} : Rep st Z w r z0 → NewR st Z w r st
  | new {xs : List Val} {ps : List PV} : Reps st Z xs ps z0 → NewR st Z (.ref st.length) (.lst true ps) (st ++ [Cell.lst xs])
theorem Reps.rep {xs : List Val} {ps : List PV} (h : Reps st Z xs ps z0) : ∀ n : Nat, Reps st Z (List.replicate n xs).flatten (List.replicate n ps).flatten z0
  | 0 => .nil fun _ => rfl
  | n + 1 => by
    rw [List.replicate_succ, List.replicate_succ, List.flatten_cons, List.flatten_cons]
    exact (h.append (Reps.rep h n)).cong fun _ => rfl
theorem Reps.cut {xs : List Val} {ps : List PV} (h : Reps st Z xs ps z0) (l u : Option Int) : Reps st Z (Ev.cut xs l u) (Ev.cut ps l u) z0 := by
  unfold Ev.cut
  rw [h.length]
  obtain ⟨a, b, h1, h2, h3⟩ := h.take_drop (HT.sIx ps.length 0 l)
  have hb : ∀ n, b n = 0 := fun n => by have := h3 n; simp at this; omega
  obtain ⟨a', b', h4, h5, h6⟩ := h2.take_drop (HT.sIx ps.length ps.length u - HT.sIx ps.length 0 l)
  exact h4.cong fun n => by have := h6 n; rw [hb] at this; simp; omega
theorem Rep.z (r : Rep st Z v p c) (h : p.noO = true) : Rep st Z v p z0 := r.cong fun n => (r.zero h n).symm
theorem Reps.z {xs : List Val} {ps : List PV} (r : Reps st Z xs ps c) (h : noOL ps = true) : Reps st Z xs ps z0 := r.cong fun n => (r.zero h n).symm
theorem kids_of {o : Option PV} {r : PV} (h : kids p o = some r) : p.kidsNoO = true ∧ o = some r := by
  unfold kids at h
  split at h
  · exact ⟨by assumption, h⟩
  · cases h
theorem pneed_of {α : Type} {P : Prop} [Decidable P] {a b : α} (h : pneed P a = some b) : P ∧ a = b := by
  unfold pneed at h
  split at h
  · exact ⟨by assumption, by cases h; rfl⟩
  · cases h
theorem pq_bin {op : Bop} {r : PV} (a : Rep st Z v p c) (b : Rep st Z w q d) (kp : p.kidsNoO = true) (kq : q.kidsNoO = true) (h : pbin op p q = some r) : ∃ u s', binop op v w st = .ok u s' ∧ NewR st Z u r s' := by
  cases a with
  | int i =>
    cases b with
    | int j =>
      cases op with
      | add => cases h; exact ⟨_, _, rfl, .here (.int _ fun _ => rfl)⟩
      | sub => cases h; exact ⟨_, _, rfl, .here (.int _ fun _ => rfl)⟩
      | mul => obtain ⟨h1, rfl⟩ := pneed_of h; exact ⟨_, _, if_pos h1, .here (.int _ fun _ => rfl)⟩
      | fdiv => obtain ⟨h1, rfl⟩ := pneed_of h; exact ⟨_, _, if_pos h1, .here (.int _ fun _ => rfl)⟩
      | mod => obtain ⟨h1, rfl⟩ := pneed_of h; exact ⟨_, _, if_pos h1, .here (.int _ fun _ => rfl)⟩
      | pow => obtain ⟨h1, rfl⟩ := pneed_of h; exact ⟨_, _, if_pos h1, .here (.int _ fun _ => rfl)⟩
    | _ => cases op <;> cases h
  | str x =>
    cases b with
    | str y =>
      cases op with
      | add => obtain ⟨h1, rfl⟩ := pneed_of h; exact ⟨_, _, if_pos h1, .here (.str _ fun _ => rfl)⟩
      | _ => cases h
    | _ => cases op <;> cases h
  | @tup xs ps c t =>
    cases b with
    | @tup ys qs d u =>
      cases op with
      | add =>
        obtain ⟨h1, rfl⟩ := pneed_of h
        rw [← t.length, ← u.length] at h1
        exact ⟨_, _, if_pos h1, .here (.tup (((t.z kp).append (u.z kq)).cong fun _ => rfl))⟩
      | _ => cases h
    | int j =>
      cases op with
      | mul =>
        obtain ⟨h1, rfl⟩ := pneed_of h
        have h2 : xs ≠ [] ∧ 2 ≤ j ∧ j ≤ 1000 ∧ xs.length ≤ 1000 := ⟨fun e => h1.1 (List.eq_nil_of_length_eq_zero (by rw [← t.length, e]; rfl)), h1.2.1, h1.2.2.1, by rw [t.length]; exact h1.2.2.2⟩
        exact ⟨_, _, if_pos h2, .here (.tup ((t.z kp).rep _))⟩
      | _ => cases h
    | _ => cases op <;> cases h
  | @lstF n xs ps c h1 h2 t z =>
    cases op with
    | add =>
      cases b with
      | @lstF m ys qs d g1 g2 u z' =>
        obtain ⟨l1, rfl⟩ := pneed_of h
        rw [← t.length, ← u.length] at l1
        refine ⟨_, _, ?_, .new (((t.z kp).append (u.z kq)).cong fun _ => rfl)⟩
        simp only [binop, h1, g1]
        exact if_pos l1
      | @lstO m ys qs d _ g1 u z' =>
        obtain ⟨l1, rfl⟩ := pneed_of h
        rw [← t.length, ← u.length] at l1
        refine ⟨_, _, ?_, .new (((t.z kp).append (u.z kq)).cong fun _ => rfl)⟩
        simp only [binop, h1, g1]
        exact if_pos l1
      | _ => cases h
    | mul =>
      cases b with
      | int j =>
        obtain ⟨l1, rfl⟩ := pneed_of h
        rw [← t.length] at l1
        refine ⟨_, _, ?_, .new ((t.z kp).rep _)⟩
        simp only [binop, h1]
        exact if_pos l1
      | _ => cases h
    | _ => cases h
  | @lstO n xs ps c _ h1 t z =>
    cases op with
    | add =>
      cases b with
      | @lstF m ys qs d g1 g2 u z' =>
        obtain ⟨l1, rfl⟩ := pneed_of h
        rw [← t.length, ← u.length] at l1
        refine ⟨_, _, ?_, .new (((t.z kp).append (u.z kq)).cong fun _ => rfl)⟩
        simp only [binop, h1, g1]
        exact if_pos l1
      | @lstO m ys qs d _ g1 u z' =>
        obtain ⟨l1, rfl⟩ := pneed_of h
        rw [← t.length, ← u.length] at l1
        refine ⟨_, _, ?_, .new (((t.z kp).append (u.z kq)).cong fun _ => rfl)⟩
        simp only [binop, h1, g1]
        exact if_pos l1
      | _ => cases h
    | mul =>
      cases b with
      | int j =>
        obtain ⟨l1, rfl⟩ := pneed_of h
        rw [← t.length] at l1
        refine ⟨_, _, ?_, .new ((t.z kp).rep _)⟩
        simp only [binop, h1]
        exact if_pos l1
      | _ => cases h
    | _ => cases h
  | _ => cases op <;> cases h
theorem pq_slice {l u : Option Int} {r : PV} (a : Rep st Z v p c) (kp : p.kidsNoO = true) (h : pslice p l u = some r) : ∃ w s', sliceop v l u st = .ok w s' ∧ NewR st Z w r s' := by
  cases a with
  | @tup xs ps c t => cases h; exact ⟨_, _, rfl, .here (.tup ((t.z kp).cut l u))⟩
  | @lstF n xs ps c h1 h2 t z =>
    cases h
    refine ⟨_, _, ?_, .new ((t.z kp).cut l u)⟩
    show (match listAt st n with | some xs => Res.ok (Val.ref st.length) (st ++ [Cell.lst (Ev.cut xs l u)]) | none => .stuck) = _
    rw [listAt_of h1]
  | @lstO n xs ps c _ h1 t z =>
    cases h
    refine ⟨_, _, ?_, .new ((t.z kp).cut l u)⟩
    show (match listAt st n with | some xs => Res.ok (Val.ref st.length) (st ++ [Cell.lst (Ev.cut xs l u)]) | none => .stuck) = _
    rw [listAt_of h1]
  | _ => cases h
theorem pq_rev {r : PV} (a : Rep st Z v p c) (kp : p.kidsNoO = true) (h : prev p = some r) : ∃ w s', revop v st = .ok w s' ∧ NewR st Z w r s' := by
  cases a with
  | @tup xs ps c t => cases h; exact ⟨_, _, rfl, .here (.tup (t.z kp).reverse)⟩
  | @lstF n xs ps c h1 h2 t z =>
    cases h
    refine ⟨_, _, ?_, .new (t.z kp).reverse⟩
    show (match listAt st n with | some xs => Res.ok (Val.ref st.length) (st ++ [Cell.lst xs.reverse]) | none => .stuck) = _
    rw [listAt_of h1]
  | @lstO n xs ps c _ h1 t z =>
    cases h
    refine ⟨_, _, ?_, .new (t.z kp).reverse⟩
    show (match listAt st n with | some xs => Res.ok (Val.ref st.length) (st ++ [Cell.lst xs.reverse]) | none => .stuck) = _
    rw [listAt_of h1]
  | _ => cases h
theorem pq_bi {b : Bi} {vs : List Val} {qs : List PV} {r : PV} (a : Reps st Z vs qs c) (kp : biMd b = true → (qs.all fun v => v.kidsNoO) = true) (h : pbi b qs = some r) : ∃ w s', bifn b vs st = .ok w s' ∧ NewR st Z w r s' := by
  have kt : ∀ {x : PV} {xs : List PV}, (([x] : List PV).all fun v => v.kidsNoO) = true → x.kidsNoO = true := fun h => by simpa using h
  cases a with
  | nil z => cases b <;> cases h
  | @cons x y xs ys a1 b1 c r1 t e =>
    cases t with
    | nil z2 =>
      cases b with
      | len =>
        cases r1 with
        | @tup zs ps c t => cases h; exact ⟨_, _, rfl, .here (by rw [← t.length]; exact .int _ fun _ => rfl)⟩
        | str s => obtain ⟨l1, rfl⟩ := pneed_of h; exact ⟨_, _, if_pos l1, .here (.int _ fun _ => rfl)⟩
        | @lstF n zs ps c h1 h2 t z =>
          cases h
          refine ⟨.int zs.length, st, ?_, .here (by rw [← t.length]; exact .int _ fun _ => rfl)⟩
          show (match listAt st n with | some xs => Res.ok (Val.int xs.length) st | none => .stuck) = _
          rw [listAt_of h1]
        | @lstO n zs ps c _ h1 t z =>
          cases h
          refine ⟨.int zs.length, st, ?_, .here (by rw [← t.length]; exact .int _ fun _ => rfl)⟩
          show (match listAt st n with | some xs => Res.ok (Val.int xs.length) st | none => .stuck) = _
          rw [listAt_of h1]
        | @ro n zs ps c h1 h2 t z =>
          cases h
          refine ⟨.int zs.length, st, ?_, .here (by rw [← t.length]; exact .int _ fun _ => rfl)⟩
          show (match listAt st n with | some xs => Res.ok (Val.int xs.length) st | none => .stuck) = _
          rw [listAt_ro h1]
        | _ => cases h
      | abs => cases r1 with
        | int i => cases h; exact ⟨_, _, rfl, .here (.int _ fun _ => rfl)⟩
        | _ => cases h
      | max =>
        have key : ∀ {n : Nat} {zs : List Val} {ps : List PV} {d : Cn}, st[n]? = some (.lst zs) → Reps st Z zs ps d → ((pInts ps).bind maxI).map PV.int = some r → ∃ w s', bifn .max [.ref n] st = .ok w s' ∧ NewR st Z w r s' := fun {n zs ps d} h1 t h => by
          cases e : (pInts ps).bind maxI with
          | none => rw [e] at h; cases h
          | some m =>
            rw [e] at h; cases h
            refine ⟨.int m, st, ?_, .here (.int _ fun _ => rfl)⟩
            show (match (listAt st n).bind fun xs => (allInts xs).bind maxI with | some m => Res.ok (Val.int m) st | none => .stuck) = _
            rw [listAt_of h1]
            show (match (allInts zs).bind maxI with | some m => Res.ok (Val.int m) st | none => .stuck) = _
            rw [ints_eq t, e]
        cases r1 with
        | lstF h1 h2 t z => exact key h1 t h
        | lstO h1 t z => exact key h1 t h
        | _ => cases h
      | min =>
        have key : ∀ {n : Nat} {zs : List Val} {ps : List PV} {d : Cn}, st[n]? = some (.lst zs) → Reps st Z zs ps d → ((pInts ps).bind minI).map PV.int = some r → ∃ w s', bifn .min [.ref n] st = .ok w s' ∧ NewR st Z w r s' := fun {n zs ps d} h1 t h => by
          cases e : (pInts ps).bind minI with
          | none => rw [e] at h; cases h
          | some m =>
            rw [e] at h; cases h
            refine ⟨.int m, st, ?_, .here (.int _ fun _ => rfl)⟩
            show (match (listAt st n).bind fun xs => (allInts xs).bind minI with | some m => Res.ok (Val.int m) st | none => .stuck) = _
            rw [listAt_of h1]
            show (match (allInts zs).bind minI with | some m => Res.ok (Val.int m) st | none => .stuck) = _
            rw [ints_eq t, e]
        cases r1 with
        | lstF h1 h2 t z => exact key h1 t h
        | lstO h1 t z => exact key h1 t h
        | _ => cases h
      | sum =>
        have key : ∀ {n : Nat} {zs : List Val} {ps : List PV} {d : Cn}, st[n]? = some (.lst zs) → Reps st Z zs ps d → (pInts ps).map (fun ns => PV.int ns.sum) = some r → ∃ w s', bifn .sum [.ref n] st = .ok w s' ∧ NewR st Z w r s' := fun {n zs ps d} h1 t h => by
          cases e : pInts ps with
          | none => rw [e] at h; cases h
          | some m =>
            rw [e] at h; cases h
            refine ⟨.int m.sum, st, ?_, .here (.int _ fun _ => rfl)⟩
            show (match (listAt st n).bind allInts with | some ns => Res.ok (Val.int ns.sum) st | none => .stuck) = _
            rw [listAt_of h1]
            show (match allInts zs with | some ns => Res.ok (Val.int ns.sum) st | none => .stuck) = _
            rw [ints_eq t, e]
        cases r1 with
        | lstF h1 h2 t z => exact key h1 t h
        | lstO h1 t z => exact key h1 t h
        | _ => cases h
      | all =>
        have key : ∀ {n : Nat} {zs : List Val} {ps : List PV} {d : Cn}, st[n]? = some (.lst zs) → Reps st Z zs ps d → (pBools ps).map (fun ns => PV.bool (ns.all id)) = some r → ∃ w s', bifn .all [.ref n] st = .ok w s' ∧ NewR st Z w r s' := fun {n zs ps d} h1 t h => by
          cases e : pBools ps with
          | none => rw [e] at h; cases h
          | some m =>
            rw [e] at h; cases h
            refine ⟨.bool (m.all id), st, ?_, .here (.bool _ fun _ => rfl)⟩
            show (match (listAt st n).bind allBools with | some ns => Res.ok (Val.bool (ns.all id)) st | none => .stuck) = _
            rw [listAt_of h1]
            show (match allBools zs with | some ns => Res.ok (Val.bool (ns.all id)) st | none => .stuck) = _
            rw [bools_eq t, e]
        cases r1 with
        | lstF h1 h2 t z => exact key h1 t h
        | lstO h1 t z => exact key h1 t h
        | _ => cases h
      | int =>
        cases r1 with
        | int i => cases h; exact ⟨_, _, rfl, .here (.int _ fun _ => rfl)⟩
        | bool i => cases h; exact ⟨_, _, rfl, .here (.int _ fun _ => rfl)⟩
        | str s =>
          have h : (PySem.intText? s).bind (fun n => pneed (s.length ≤ 640) (PV.int n)) = some r := h
          cases e : PySem.intText? s with
          | none => rw [e] at h; cases h
          | some n =>
            rw [e] at h
            obtain ⟨l1, rfl⟩ := pneed_of h
            refine ⟨.int n, st, ?_, .here (.int _ fun _ => rfl)⟩
            show (match PySem.intText? s with | some n => need (s.length ≤ 640) (Res.ok (Val.int n) st) | none => .stuck) = _
            rw [e]
            exact if_pos l1
        | _ => cases h
      | str => cases r1 <;> cases h
      | list =>
        have kp := kt (xs := []) (kp rfl)
        cases r1 with
        | @tup zs ps c t => cases h; exact ⟨_, _, rfl, .new (t.z kp)⟩
        | @lstF n zs ps c h1 h2 t z =>
          cases h
          refine ⟨_, _, ?_, .new (t.z kp)⟩
          show (match listAt st n with | some xs => Res.ok (Val.ref st.length) (st ++ [Cell.lst xs]) | none => .stuck) = _
          rw [listAt_of h1]
        | @lstO n zs ps c _ h1 t z =>
          cases h
          refine ⟨_, _, ?_, .new (t.z kp)⟩
          show (match listAt st n with | some xs => Res.ok (Val.ref st.length) (st ++ [Cell.lst xs]) | none => .stuck) = _
          rw [listAt_of h1]
        | _ => cases h
      | tuple =>
        have kp := kt (xs := []) (kp rfl)
        cases r1 with
        | @tup zs ps c t => cases h; exact ⟨_, _, rfl, .here (.tup (t.z kp))⟩
        | @lstF n zs ps c h1 h2 t z =>
          cases h
          refine ⟨.tup zs, st, ?_, .here (.tup (t.z kp))⟩
          show (match listAt st n with | some xs => Res.ok (Val.tup xs) st | none => .stuck) = _
          rw [listAt_of h1]
        | @lstO n zs ps c _ h1 t z =>
          cases h
          refine ⟨.tup zs, st, ?_, .here (.tup (t.z kp))⟩
          show (match listAt st n with | some xs => Res.ok (Val.tup xs) st | none => .stuck) = _
          rw [listAt_of h1]
        | _ => cases h
    | @cons x2 y2 xs ys a2 b2 c r2 t e2 =>
      cases t with
      | nil z2 =>
        cases r1 with
        | int i =>
          cases r2 with
          | int j =>
            cases b with
            | max => cases h; exact ⟨_, _, rfl, .here (.int _ fun _ => rfl)⟩
            | min => cases h; exact ⟨_, _, rfl, .here (.int _ fun _ => rfl)⟩
            | _ => cases h
          | _ => cases b <;> cases h
        | _ => cases b <;> cases h
      | cons _ _ _ => exfalso; revert h; cases b <;> simp [pbi]
theorem pq_read {m : Mt} {vs : List Val} {qs : List PV} {r : PV} (a : Rep st Z v p c) (b : Reps st Z vs qs d) (kd : m = .get → p.kidsNoO = true) (h : pread m p qs = some r) : mtOk m v st = true ∧ ((∃ w, metop m v vs st = .ok w st ∧ Rep st Z w r z0) ∨ (∃ w a', metop m v vs st = .ok w st ∧ Rep st Z w r a' ∧ ∀ n, a' n ≤ d n)) := by
  have key : ∀ {o : Bool} {ps : List PV}, p = .lst o ps → m ≠ .get → ∃ (n : Nat) (xs : List Val) (a : Cn), v = .ref n ∧ st[n]? = some (.lst xs) ∧ Reps st Z xs ps a ∧ mtOk m v st = true := fun {o ps} e hm => by
    subst e
    obtain ⟨n, xs, a1, rfl, h1, t, _⟩ := a.list
    refine ⟨n, xs, a1, rfl, h1, t, ?_⟩
    cases m <;> first | exact absurd rfl hm | (show (listAt st n).isSome = true; rw [listAt_of h1]; rfl)
  cases m with
  | count =>
    cases p with
    | lst o ps =>
      obtain ⟨n, xs, a1, rfl, h1, t, hm⟩ := key rfl (fun z => by cases z)
      refine ⟨hm, .inl ?_⟩
      cases b with
      | nil _ => cases h
      | @cons x y _ _ _ _ _ r1 u e =>
        cases u with
        | cons _ _ _ => cases r1 <;> cases h
        | nil _ =>
          cases r1 with
          | int k =>
            have h : (pInts ps).map (fun ns => PV.int (ns.count k : Nat)) = some r := h
            cases e1 : pInts ps with
            | none => rw [e1] at h; cases h
            | some ns =>
              rw [e1] at h; cases h
              refine ⟨.int (ns.count k : Nat), ?_, .int _ fun _ => rfl⟩
              show (match (listAt st n).bind allInts with | some ns => Res.ok (Val.int (ns.count k : Nat)) st | none => .stuck) = _
              rw [listAt_of h1]
              show (match allInts xs with | some ns => Res.ok (Val.int (ns.count k : Nat)) st | none => .stuck) = _
              rw [ints_eq t, e1]
          | bool k =>
            have h : (if ps.all pflat = true then some (PV.int ((ps.countP fun x => pflatEq x (.bool k)) : Nat)) else none) = some r := h
            split at h
            · rename_i hf
              cases h
              refine ⟨.int ((ps.countP fun x => pflatEq x (.bool k)) : Nat), ?_, .int _ fun _ => rfl⟩
              show (match listAt st n with | some xs => if xs.all flatB = true then Res.ok (Val.int ((xs.countP fun x => flatEq x (.bool k)) : Nat)) st else .stuck | none => .stuck) = _
              rw [listAt_of h1]
              show (if xs.all flatB = true then Res.ok (Val.int ((xs.countP fun x => flatEq x (.bool k)) : Nat)) st else .stuck) = _
              rw [flats_eq t, if_pos hf, countF_eq (w := .bool k) (q := .bool k) (.bool (c := z0) k fun _ => rfl) rfl t hf]
            · cases h
          | _ => cases h
    | _ => cases h
  | index =>
    cases p with
    | lst o ps =>
      obtain ⟨n, xs, a1, rfl, h1, t, hm⟩ := key rfl (fun z => by cases z)
      refine ⟨hm, .inl ?_⟩
      cases b with
      | nil _ => cases h
      | @cons x y _ _ _ _ _ r1 u e =>
        cases u with
        | cons _ _ _ => cases h
        | nil _ =>
          have h : (if pflat y = true ∧ ps.all pflat = true then (ps.findIdx? fun x => pflatEq x y).map (fun j => PV.int (j : Nat)) else none) = some r := h
          split at h
          · rename_i hf
            cases e1 : ps.findIdx? fun x => pflatEq x y with
            | none => rw [e1] at h; cases h
            | some j =>
              rw [e1] at h; cases h
              refine ⟨.int (j : Nat), ?_, .int _ fun _ => rfl⟩
              show (match listAt st n with | some xs => if flatB x = true ∧ xs.all flatB = true then (match xs.findIdx? fun z => flatEq z x with | some j => Res.ok (Val.int (j : Nat)) st | none => .stuck) else .stuck | none => .stuck) = _
              rw [listAt_of h1]
              show (if flatB x = true ∧ xs.all flatB = true then (match xs.findIdx? fun z => flatEq z x with | some j => Res.ok (Val.int (j : Nat)) st | none => .stuck) else .stuck) = _
              rw [flat_eq r1, flats_eq t, if_pos hf, findF_eq r1 hf.1 t hf.2, e1]
          · cases h
    | _ => cases h
  | get =>
    cases p with
    | dict o ks ps =>
      have kd := kd rfl
      obtain ⟨n, kvs, a1, rfl, h1, rfl, t⟩ : ∃ (n : Nat) (kvs : List (Sum Int Str × Val)) (a1 : Cn), v = .ref n ∧ st[n]? = some (.dict kvs) ∧ ks = (kvs.map fun kv => nk kv.1) ∧ Reps st Z (kvs.map (·.2)) ps a1 := by
        cases a with
        | dictF h1 h2 t z => exact ⟨_, _, _, rfl, h1.1, rfl, t⟩
        | dictO h1 t z => exact ⟨_, _, _, rfl, h1.1, rfl, t⟩
      have hm : mtOk .get (.ref n) st = true := by show (match st[n]? with | some (.dict _) => true | _ => false) = true; rw [h1]
      refine ⟨hm, ?_⟩
      cases b with
      | nil _ => cases h
      | @cons x y _ _ _ _ _ r1 u e =>
        cases u with
        | nil _ => cases h
        | @cons x2 y2 _ _ a2 b2 c2 r2 u e2 =>
          cases u with
          | cons _ _ _ => cases h
          | nil z3 =>
            have h : (keyT y).map (fun k => (dget (kvs.map fun kv => nk kv.1) ps k).getD y2) = some r := h
            cases ek : keyT y with
            | none => rw [ek] at h; cases h
            | some k =>
              rw [ek] at h; cases h
              obtain ⟨k', rfl, hy⟩ := keyT_nk ek
              have hk : keyOf x = some k' := by
                rcases hy with ⟨i, rfl, rfl⟩ | ⟨i, rfl, rfl⟩ <;> cases r1 <;> rfl
              have run : metop .get (.ref n) [x, x2] st = .ok ((valK kvs k').getD x2) st := by
                show (match st[n]?, keyOf x with | some (.dict kvs), some z => Res.ok ((valK kvs z).getD x2) st | _, _ => .stuck) = _
                rw [h1, hk]
              cases e3 : dget (kvs.map fun kv => nk kv.1) ps (nk k') with
              | none =>
                rw [dget_none t e3] at run
                exact .inr ⟨x2, a2, run, by dsimp only; rw [e3]; exact r2, fun n => by rw [e, e2]; omega⟩
              | some q3 =>
                obtain ⟨i, w, f1, f2, f3, _⟩ := dget_at t e3
                rw [f3] at run
                obtain ⟨w2, a3, g1, g2, g3⟩ := (t.z kd).get f1
                rw [f2] at g1; cases g1
                exact .inl ⟨w, run, by dsimp only; rw [e3]; exact g2.cong fun n => by have := g3 n; simp at this ⊢; omega⟩
    | _ => cases h
  | append => cases p <;> cases h
  | extend => cases p <;> cases h
  | pop => cases p <;> cases h
/-- an item of a thing on its way -/
theorem pq_ix {y : Val} {i r : PV} (a : Rep st Z v p c) (b : Rep st Z y i d) (h : getS (.ix i) p = some r) : ∃ w a', ixop v y st = .ok w st ∧ Rep st Z w r a' ∧ ∀ n, a' n ≤ c n := by
  cases a with
  | @tup xs ps c t =>
    cases b with
    | int k =>
      have h : L2.atI ps k = some r := h
      obtain ⟨j, e1, e2⟩ := atI_some h
      obtain ⟨w, a', e3, r1, e4⟩ := t.get e2
      refine ⟨w, a', ?_, r1, e4⟩
      show (match L2.atI xs k with | some v => Res.ok v st | none => .stuck) = _
      rw [atI_of e1 t.length e3]
    | _ => cases h
  | str s =>
    cases b with
    | int k =>
      have h : (L2.atI s.cps.toList k).bind (fun c => if s.length ≤ sizeLine then some (PV.str ⟨#[c]⟩) else none) = some r := h
      cases e1 : L2.atI s.cps.toList k with
      | none => rw [e1] at h; cases h
      | some ch =>
        rw [e1] at h
        have h : (if s.length ≤ sizeLine then some (PV.str ⟨#[ch]⟩) else none) = some r := h
        split at h
        · rename_i hl
          cases h
          refine ⟨.str ⟨#[ch]⟩, z0, ?_, .str _ fun _ => rfl, fun n => Nat.zero_le _⟩
          show (match L2.atI s.cps.toList k with | some c => need (s.length ≤ sizeLine) (Res.ok (Val.str ⟨#[c]⟩) st) | none => .stuck) = _
          rw [e1]
          exact if_pos hl
        · cases h
    | _ => cases h
  | @ro n xs ps c h1 h2 t z =>
    cases b with
    | int k =>
      have h : L2.atI ps k = some r := h
      obtain ⟨j, e1, e2⟩ := atI_some h
      obtain ⟨w, a', e3, r1, e4⟩ := t.get e2
      refine ⟨w, a', ?_, r1, e4⟩
      show (match (st[n]?).bind fun c => ixCell c (.int k) with | some v => Res.ok v st | none => .stuck) = _
      rw [h1]
      show (match L2.atI xs k with | some v => Res.ok v st | none => .stuck) = _
      rw [atI_of e1 t.length e3]
    | _ => cases h
  | @lstF n xs ps c h1 h2 t z =>
    cases b with
    | int k =>
      have h : L2.atI ps k = some r := h
      obtain ⟨j, e1, e2⟩ := atI_some h
      obtain ⟨w, a', e3, r1, e4⟩ := t.get e2
      refine ⟨w, a', ?_, r1, e4⟩
      show (match (st[n]?).bind fun c => ixCell c (.int k) with | some v => Res.ok v st | none => .stuck) = _
      rw [h1]
      show (match L2.atI xs k with | some v => Res.ok v st | none => .stuck) = _
      rw [atI_of e1 t.length e3]
    | _ => cases h
  | @lstO n xs ps c d0 h1 t z =>
    cases b with
    | int k =>
      have h : L2.atI ps k = some r := h
      obtain ⟨j, e1, e2⟩ := atI_some h
      obtain ⟨w, a', e3, r1, e4⟩ := t.get e2
      refine ⟨w, a', ?_, r1, fun n => by have := e4 n; rw [z]; omega⟩
      show (match (st[n]?).bind fun c => ixCell c (.int k) with | some v => Res.ok v st | none => .stuck) = _
      rw [h1]
      show (match L2.atI xs k with | some v => Res.ok v st | none => .stuck) = _
      rw [atI_of e1 t.length e3]
    | _ => cases h
  | @dictF n kvs ps c h1 h2 t z =>
    have h : (keyT i).bind (dget (kvs.map fun kv => nk kv.1) ps) = some r := by cases i <;> exact h
    cases ek : keyT i with
    | none => rw [ek] at h; cases h
    | some k =>
      rw [ek] at h
      obtain ⟨k', rfl, hy⟩ := keyT_nk ek
      have hk : keyOf y = some k' := by
        rcases hy with ⟨i, rfl, rfl⟩ | ⟨i, rfl, rfl⟩ <;> cases b <;> rfl
      obtain ⟨j, w, f1, f2, f3, _⟩ := dget_at t h
      obtain ⟨w2, a3, g1, g2, g3⟩ := t.get f1
      rw [f2] at g1; cases g1
      refine ⟨w, a3, ?_, g2, g3⟩
      have : ixop (.ref n) y st = (match (st[n]?).bind fun c => ixCell c y with | some v => Res.ok v st | none => .stuck) := by cases y <;> rfl
      rw [this, h1.1]
      show (match (keyOf y).bind (valK kvs) with | some v => Res.ok v st | none => .stuck) = _
      rw [hk]
      show (match valK kvs k' with | some v => Res.ok v st | none => .stuck) = _
      rw [f3]
  | @dictO n kvs ps c d0 h1 t z =>
    have h : (keyT i).bind (dget (kvs.map fun kv => nk kv.1) ps) = some r := by cases i <;> exact h
    cases ek : keyT i with
    | none => rw [ek] at h; cases h
    | some k =>
      rw [ek] at h
      obtain ⟨k', rfl, hy⟩ := keyT_nk ek
      have hk : keyOf y = some k' := by
        rcases hy with ⟨i, rfl, rfl⟩ | ⟨i, rfl, rfl⟩ <;> cases b <;> rfl
      obtain ⟨j, w, f1, f2, f3, _⟩ := dget_at t h
      obtain ⟨w2, a3, g1, g2, g3⟩ := t.get f1
      rw [f2] at g1; cases g1
      refine ⟨w, a3, ?_, g2, fun n => by have := g3 n; rw [z]; omega⟩
      have : ixop (.ref n) y st = (match (st[n]?).bind fun c => ixCell c y with | some v => Res.ok v st | none => .stuck) := by cases y <;> rfl
      rw [this, h1.1]
      show (match (keyOf y).bind (valK kvs) with | some v => Res.ok v st | none => .stuck) = _
      rw [hk]
      show (match valK kvs k' with | some v => Res.ok v st | none => .stuck) = _
      rw [f3]
  | _ => cases i <;> cases h
/-- .. of a thing at a place: the same -/
theorem ix_stepV {y : Val} {i : PV} {w : Val} (b : Rep st Z y i d) (h : stepV st (.ix i) v = some w) : ixop v y st = .ok w st := by
  cases v with
  | tup xs =>
    cases b with
    | int k =>
      have h : L2.atI xs k = some w := h
      show (match L2.atI xs k with | some v => Res.ok v st | none => .stuck) = _
      rw [h]
    | _ => cases h
  | ref n =>
    have hi : ixop (.ref n) y st = (match (st[n]?).bind fun c => ixCell c y with | some v => Res.ok v st | none => .stuck) := by cases y <;> rfl
    rw [hi]
    cases e : st[n]? with
    | none => cases i <;> simp [stepV, e] at h
    | some cl =>
      cases cl with
      | lst xs =>
        cases b with
        | int k =>
          simp only [stepV, e] at h
          show (match L2.atI xs k with | some v => Res.ok v st | none => .stuck) = _
          rw [h]
        | _ => simp [stepV, e] at h
      | dict kvs =>
        cases b with
        | int k =>
          simp only [stepV, e] at h
          show (match valK kvs (.inl k) with | some v => Res.ok v st | none => .stuck) = _
          rw [h]
        | str k =>
          simp only [stepV, e] at h
          show (match valK kvs (.inr k) with | some v => Res.ok v st | none => .stuck) = _
          rw [h]
        | _ => simp [stepV, e] at h
      | _ => cases i <;> simp [stepV, e] at h
  | _ => cases i <;> cases h
end
end Ev

set_option Elab.async false
set_option linter.all false
set_option maxRecDepth 100000
set_option maxHeartbeats 1000000
/-! ## Expressions: what is plainly evaluated, the store's evaluator answers too -/
namespace Ev
open PySem
def iosel {α : Type} : List Bool → List α → List α
  | true :: ms, x :: xs => x :: iosel ms xs
  | false :: ms, _ :: xs => iosel ms xs
  | _, _ => []
def FnR (F : Fns) (io : List Bool) (f : Str) (r : PC) (vargs : List Val) (st : Store) (Z : Nat → Prop) (c : Cn) : Prop :=
  match r with
  | .ok v outs => ∃ (w : Val) (st' : Store) (Z' : Nat → Prop) (a b : Cn), F.fn f vargs st = .ok w st' ∧ Rep st' Z' w v a ∧ Reps st' Z' (iosel io vargs) outs b ∧ Wf st' Z' (fun n => a n + b n) ∧ Go st Z c (!io.any id) st' Z' fun n => a n + b n
  | .exc x v outs => ∃ (w : Val) (st' : Store) (Z' : Nat → Prop) (b : Cn), F.fn f vargs st = .exc x w st' ∧ Rep st' Z' w v z0 ∧ (v.noO = true ∧ v.noF = true) ∧ Reps st' Z' (iosel io vargs) outs b ∧ Wf st' Z' b ∧ Go st Z c (!io.any id) st' Z' b
  | .stuck => True
structure PF (F : Fns) (G : PFns) : Prop where
  fuel : F.fuel = G.fuel
  has : ∀ f, F.has f = G.has f
  glob : ∀ x v, G.glob x = some v → ∃ w, F.glob x = some w ∧ ∀ st Z, Rep st Z w v z0
  fn : ∀ f pargs vargs st Z c, Reps st Z vargs pargs c → Wf st Z c → ((G.io f).any id = false → ∀ n, c n = 0) → FnR F (G.io f) f (G.fn f pargs) vargs st Z c
def OutOk (st : Store) (Z : Nat → Prop) (o : Cn) (e : Env) (k : Bool) (st' : Store) (vs : List Val) (bs : List BV) (p' : PEnv) : Prop :=
  ∃ (Z' : Nat → Prop) (a b : Cn), BOk st' Z' e vs bs a ∧ ER st' Z' e p' b ∧ Wf st' Z' (fun n => a n + b n) ∧ Go st Z o k st' Z' fun n => a n + b n
def OutX (st : Store) (Z : Nat → Prop) (o : Cn) (e : Env) (k : Bool) (st' : Store) (w : Val) (v : PV) (p' : PEnv) : Prop :=
  ∃ (Z' : Nat → Prop) (b : Cn), Rep st' Z' w v z0 ∧ (v.noO = true ∧ v.noF = true) ∧ ER st' Z' e p' b ∧ Wf st' Z' b ∧ Go st Z o k st' Z' b
def isL : CE → Bool
  | .nil => true
  | .cons _ _ => true
  | .kv _ _ _ => true
  | _ => false
def wrapV (l : Bool) (vs : List Val) (r : Val) : Prop := if l = true then r = .tup vs else vs = [r]
structure SP (F : Fns) (G : PFns) (c : CE) : Prop where
  ok : ∀ {m : Md} {p p' : PEnv} {e : Env} {st : Store} {Z : Nat → Prop} {o : Cn} {bs : List BV}, ER st Z e p o → Wf st Z o → evalP G c m p = .ok bs p' → ∃ r st' vs, evalE F c e st = .ok r st' ∧ wrapV (isL c) vs r ∧ OutOk st Z o e (calm G.io c) st' vs bs p'
  exc : ∀ {m : Md} {p p' : PEnv} {e : Env} {st : Store} {Z : Nat → Prop} {o : Cn} {x : Str} {v : PV}, ER st Z e p o → Wf st Z o → evalP G c m p = .exc x v p' → ∃ w st', evalE F c e st = .exc x w st' ∧ OutX st Z o e (calm G.io c) st' w v p'
section
variable {st st1 st2 : Store} {Z Z1 Z2 : Nat → Prop} {o a b c d x : Cn} {e : Env} {p p1 p2 : PEnv} {k k1 k2 : Bool}
theorem BOk.append : ∀ {vs ws : List Val} {bs cs : List BV} {a b : Cn}, BOk st Z e vs bs a → BOk st Z e ws cs b → BOk st Z e (vs ++ ws) (bs ++ cs) fun n => a n + b n
  | _, ws, _, cs, _, b, .nil z, h => h.cong fun n => by rw [z]; omega
  | _, ws, _, cs, _, b, .tmp r t z, h => .tmp r (t.append h) fun n => by rw [z]; omega
  | _, ws, _, cs, _, b, .pl e1 e2 t, h => .pl e1 e2 (t.append h)
theorem out_seq {vs ws : List Val} {bs cs : List BV} (B : BOk st1 Z1 e vs bs a) (W : Wf st1 Z1 fun n => a n + b n) (g : Go st Z o k1 st1 Z1 fun n => a n + b n) (ok : ∀ y ∈ bs, okPl y k2 = true) (h : OutOk st1 Z1 b e k2 st2 ws cs p2) : OutOk st Z o e (k1 && k2) st2 (vs ++ ws) (bs ++ cs) p2 := by
  obtain ⟨Z2, a2, b2, B2, E2, W2, G2⟩ := h
  refine ⟨Z2, fun n => a n + a2 n, b2, (B.keep ok W G2).append B2, E2, ?_, ?_⟩
  · exact (W.frame G2 W2).mono fun n => by (try dsimp only); omega
  · exact (g.trans (G2.add (x := a))).weak fun n => by (try dsimp only); omega
theorem outx_seq {w : Val} {v : PV} (W : Wf st1 Z1 fun n => a n + b n) (g : Go st Z o k1 st1 Z1 fun n => a n + b n) (h : OutX st1 Z1 b e k2 st2 w v p2) : OutX st Z o e (k1 && k2) st2 w v p2 := by
  obtain ⟨Z2, b2, R2, nf, E2, W2, G2⟩ := h
  refine ⟨Z2, b2, R2, nf, E2, W2, ?_⟩
  exact (g.trans (G2.add (x := a))).weak fun n => by (try dsimp only); omega
theorem Go.alloc {cl : Cell} (w : Wf st Z b) : Go st Z b k (st ++ [cl]) Z fun n => (if n = st.length then 1 else 0) + b n := by
  refine ⟨by simp, fun n hn _ => List.getElem?_append_left hn, fun _ z => z, fun n _ z => .inl z, fun n hn q => ?_⟩
  rw [if_neg (by omega)] at q
  omega
theorem Wf.alloc {cl : Cell} (w : Wf st Z b) : Wf (st ++ [cl]) Z fun n => (if n = st.length then 1 else 0) + b n := by
  have h0 : b st.length = 0 := by
    cases q : b st.length with
    | zero => rfl
    | succ j => have := w.lt st.length (by omega); omega
  refine ⟨fun n => ?_, fun n q z => ?_, fun n q => ?_, fun n z => ?_⟩
  · (try dsimp only)
    by_cases q : n = st.length
    · subst q; rw [if_pos rfl, h0]; omega
    · rw [if_neg q]; have := w.one n; omega
  · (try dsimp only at q)
    have hl := w.zl n z
    rw [if_neg (by omega)] at q
    exact w.nz n (by omega) z
  · (try dsimp only at q)
    simp
    by_cases h : n = st.length
    · omega
    · rw [if_neg h] at q; have := w.lt n (by omega); omega
  · have := w.zl n z; simp; omega
theorem out_new {w : Val} {r : PV} {s' : Store} (E : ER st1 Z1 e p1 b) (W : Wf st1 Z1 fun n => a n + b n) (g : Go st Z o k st1 Z1 fun n => a n + b n) (h : NewR st1 Z1 w r s') : OutOk st Z o e k s' [w] [⟨r, none⟩] p1 := by
  have Wb : Wf st1 Z1 b := W.mono fun n => by (try dsimp only); omega
  cases h with
  | here r1 => exact ⟨Z1, z0, b, BOk.one r1, E, Wb.mono fun n => by simp, g.weak fun n => by simp⟩
  | @new xs ps t =>
    have ga : Go st1 Z1 b true (st1 ++ [.lst xs]) Z1 fun n => (if n = st1.length then 1 else 0) + b n := Go.alloc Wb
    have kp : ∀ n, n < st1.length → (st1 ++ [Cell.lst xs])[n]? = st1[n]? := fun n hn => List.getElem?_append_left hn
    refine ⟨Z1, fun n => (if n = st1.length then 1 else 0), b, BOk.one (.lstO (by simp) (t.frame (fun n z => kp n (Wb.zl n z)) (fun _ z => z) fun n q => by simp at q) fun n => by simp), E.frame (fun n z => kp n (Wb.zl n z)) (fun _ z => z) fun n q => kp n (Wb.lt n q), Wb.alloc, ?_⟩
    have := (g.weak (d := b) fun n => by (try dsimp only); omega).trans ga
    rw [Bool.and_true] at this
    exact this
theorem out_val {w : Val} {r : PV} {a' : Cn} (R : Rep st1 Z1 w r a') (ha : ∀ n, a' n ≤ a n) (E : ER st1 Z1 e p1 b) (W : Wf st1 Z1 fun n => a n + b n) (g : Go st Z o k st1 Z1 fun n => a n + b n) : OutOk st Z o e k st1 [w] [⟨r, none⟩] p1 :=
  ⟨Z1, a', b, BOk.one R, E, W.mono fun n => by have := ha n; (try dsimp only); omega, g.weak fun n => by have := ha n; (try dsimp only); omega⟩
theorem out_list {xs : List Val} {ps : List PV} (t : Reps st1 Z1 xs ps a) (E : ER st1 Z1 e p1 b) (W : Wf st1 Z1 fun n => a n + b n) (g : Go st Z o k st1 Z1 fun n => a n + b n) : OutOk st Z o e k (st1 ++ [.lst xs]) [.ref st1.length] [⟨.lst true ps, none⟩] p1 := by
  have ga : Go st1 Z1 (fun n => a n + b n) true (st1 ++ [.lst xs]) Z1 fun n => (if n = st1.length then 1 else 0) + (a n + b n) := Go.alloc W
  have kp : ∀ n, n < st1.length → (st1 ++ [Cell.lst xs])[n]? = st1[n]? := fun n hn => List.getElem?_append_left hn
  refine ⟨Z1, fun n => (if n = st1.length then 1 else 0) + a n, b, BOk.one (.lstO (by simp) (t.frame (fun n z => kp n (W.zl n z)) (fun _ z => z) fun n q => kp n (W.lt n (by (try dsimp only); omega))) fun n => rfl), E.frame (fun n z => kp n (W.zl n z)) (fun _ z => z) fun n q => kp n (W.lt n (by (try dsimp only); omega)), W.alloc.mono fun n => by (try dsimp only); omega, ?_⟩
  have := g.trans ga
  rw [Bool.and_true] at this
  exact this.weak fun n => by (try dsimp only); omega
/-! places -/
theorem getP_append : ∀ {pa : List Stp} {s : Stp} {v : PV}, getP (pa ++ [s]) v = (getP pa v).bind (getS s)
  | [], s, v => by simp [getP]
  | t :: pa, s, v => by
    show (getS t v).bind (getP (pa ++ [s])) = ((getS t v).bind (getP pa)).bind (getS s)
    cases getS t v with
    | none => rfl
    | some x => exact getP_append
theorem ownP_append : ∀ {pa : List Stp} {s : Stp} {v w u : PV}, ownP pa v = true → getP pa v = some w → w.ownT = true → getS s w = some u → ownP (pa ++ [s]) v = true
  | [], s, v, w, u, _, e, o, q => by
    cases e
    show (v.ownT && (match getS s v with | some x => ownP [] x | none => false)) = true
    rw [o, q]; rfl
  | t :: pa, s, v, w, u, h, e, o, q => by
    have h : (v.ownT && (match getS t v with | some x => ownP pa x | none => false)) = true := h
    have e : (getS t v).bind (getP pa) = some w := e
    show (v.ownT && (match getS t v with | some x => ownP (pa ++ [s]) x | none => false)) = true
    rw [Bool.and_eq_true] at h ⊢
    cases g : getS t v with
    | none => rw [g] at e; cases e
    | some x =>
      rw [g] at h e
      exact ⟨h.1, ownP_append h.2 e o q⟩
theorem valP_append : ∀ {pa : List Stp} {s : Stp} {v w u : Val}, valP st pa v = some w → stepV st s w = some u → valP st (pa ++ [s]) v = some u
  | [], s, v, w, u, h, q => by
    cases h
    show (stepV st s v).bind (valP st []) = some u
    rw [q]; rfl
  | t :: pa, s, v, w, u, h, q => by
    have h : (stepV st t v).bind (valP st pa) = some w := h
    show (stepV st t v).bind (valP st (pa ++ [s])) = some u
    cases g : stepV st t v with
    | none => rw [g] at h; cases h
    | some x =>
      rw [g] at h
      exact valP_append h q
theorem getE_append {r : Nat} {pa : List Stp} {s : Stp} {w u : PV} (h : getE p r pa = some w) (o : w.ownT = true) (q : getS s w = some u) : getE p r (pa ++ [s]) = some u := by
  unfold getE at h ⊢
  split at h
  · rename_i root hr
    split at h
    · rename_i ho
      rw [if_pos (ownP_append ho h o q), getP_append, h]
      exact q
    · cases h
  · cases h
/-- a value at a place is taken -/
theorem touch_ok {m : Md} {r : Nat} {pa : List Stp} {v : PV} {w : Val} {rv : Val} {bs : List BV} {p' : PEnv} (E : ER st Z e p o) (W : Wf st Z o) (hr : e[r]? = some (some rv)) (hv : valP st pa rv = some w) (hg : getE p r pa = some v) (h : touch m r pa v p = .ok bs p') : OutOk st Z o e true st [w] bs p' := by
  obtain ⟨rv', w', a, b, e1, e2, R, e3, k⟩ := E.getE hg
  rw [hr] at e1; cases e1
  rw [hv] at e2; cases e2
  have sh : share r pa v p = .ok bs p' → OutOk st Z o e true st [w] bs p' := fun h => by
    obtain ⟨p2, e4, E2⟩ := k st (fun n => Z n ∨ 1 ≤ a n) v.frz z0 (fun _ _ => rfl) (fun _ _ => rfl) (fun _ z => .inl z) (R.frz (fun _ z => .inl z) fun n q => .inr q)
    have h1 : share r pa v p = (match putE p r pa v.frz with | some p2 => .ok [⟨v.frz, none⟩] p2 | none => .stuck) := by
      unfold share putE
      cases p[r]? with
      | none => rfl
      | some x =>
        cases x with
        | none => rfl
        | some root =>
          show (match setP pa root v.frz with | some root' => PR.ok [BV.mk v.frz none] (p.set r (some root')) | none => .stuck) = (match (setP pa root v.frz).map (fun root' => p.set r (some root')) with | some p2 => PR.ok [BV.mk v.frz none] p2 | none => .stuck)
          cases setP pa root v.frz <;> rfl
    rw [h1, e4] at h
    cases h
    have hb : ∀ n, 1 ≤ b n → a n = 0 := fun n q => by have := W.one n; have := e3 n; omega
    refine ⟨fun n => Z n ∨ 1 ≤ a n, z0, b, BOk.one (R.frz (fun _ z => .inl z) fun n q => .inr q), E2.cong fun n => by simp, ⟨fun n => ?_, fun n q z => ?_, fun n q => ?_, fun n z => ?_⟩, ⟨Nat.le_refl _, fun _ _ _ => rfl, fun _ z => .inl z, fun n hn z => ?_, fun n hn q => ?_⟩⟩
    · have := W.one n; have := e3 n; simp; omega
    · simp at q
      rcases z with z | z
      · exact W.nz n (by rw [e3]; omega) z
      · have := hb n q; omega
    · simp at q; exact W.lt n (by rw [e3]; omega)
    · rcases z with z | z
      · exact W.zl n z
      · exact W.lt n (by rw [e3]; omega)
    · rcases z with z | z
      · exact .inl z
      · exact .inr (by rw [e3]; omega)
    · simp at q; rw [e3]; omega
  unfold touch at h
  split at h
  · rename_i no
    cases h
    exact ⟨Z, z0, o, BOk.one (R.z no), E, W.mono fun n => by simp, Go.refl fun n => by simp⟩
  · have bo : OutOk st Z o e true st [w] [⟨v, some (r, pa)⟩] p := ⟨Z, z0, o, .pl hr hv (.nil fun _ => rfl), E, W.mono fun n => by simp, Go.refl fun n => by simp⟩
    cases m with
    | bo => cases h; exact bo
    | ki =>
      (try dsimp only at h)
      split at h
      · cases h; exact bo
      · exact sh h
    | sh => exact sh h
    | mv =>
      cases pa with
      | cons _ _ => exact sh h
      | nil =>
        cases h
        cases hv
        unfold Ev.getE at hg
        split at hg
        · rename_i root hr2
          obtain ⟨v2, a2, b2, f1, R2, f2, _, E2⟩ := E.at_ hr2
          rw [hr] at f1; cases f1
          have : root = v := by
            have hg : (if ownP [] root = true then getP [] root else none) = some v := hg
            have hg : some root = some v := hg
            cases hg; rfl
          subst this
          exact ⟨Z, a2, b2, BOk.one R2, E2, W.mono fun n => by rw [f2]; exact Nat.le_refl _, Go.refl fun n => by rw [f2]; exact Nat.le_refl _⟩
        · cases hg
theorem touch_exc {m : Md} {r : Nat} {pa : List Stp} {v : PV} {p' : PEnv} {x : Str} {u : PV} (h : touch m r pa v p = .exc x u p') : False := by
  have sh : ∀ {p'}, share r pa v p = .exc x u p' → False := fun h => by
    unfold share at h
    split at h
    · split at h <;> cases h
    · cases h
  unfold touch at h
  split at h
  · cases h
  · cases m with
    | bo => cases h
    | ki =>
      (try dsimp only at h)
      split at h
      · cases h
      · exact sh h
    | sh => exact sh h
    | mv => cases pa with
      | nil => cases h
      | cons _ _ => exact sh h
/-! results -/
theorem PR.bind_ok {α β : Type} {r : PR α} {f : α → PEnv → PR β} {y : β} {q : PEnv} (h : r.bind f = .ok y q) : ∃ x q1, r = .ok x q1 ∧ f x q1 = .ok y q := by
  cases r with
  | ok x q1 => exact ⟨x, q1, rfl, h⟩
  | exc _ _ _ => cases h
  | stuck => cases h
theorem PR.bind_exc {α β : Type} {r : PR α} {f : α → PEnv → PR β} {y : Str} {v : PV} {q : PEnv} (h : r.bind f = .exc y v q) : ∃ x q1, r = .ok x q1 ∧ f x q1 = .exc y v q := by
  cases r with
  | ok x q1 => exact ⟨x, q1, rfl, h⟩
  | exc _ _ _ => cases h
  | stuck => cases h
theorem PR.bindX_ok {α β : Type} {r : PR α} {f : α → PEnv → PR β} {y : β} {q : PEnv} (h : r.bindX f = .ok y q) : ∃ x q1, r = .ok x q1 ∧ f x q1 = .ok y q := by
  cases r with
  | ok x q1 => exact ⟨x, q1, rfl, h⟩
  | exc _ _ _ => cases h
  | stuck => cases h
theorem PR.bindX_exc {α β : Type} {r : PR α} {f : α → PEnv → PR β} {y : Str} {v : PV} {q : PEnv} (h : r.bindX f = .exc y v q) : r = .exc y v q ∨ ∃ x q1, r = .ok x q1 ∧ f x q1 = .exc y v q := by
  cases r with
  | ok x q1 => exact .inr ⟨x, q1, rfl, h⟩
  | exc _ _ _ => cases h; exact .inl rfl
  | stuck => cases h
theorem one_ok {α : Type} {xs : List BV} {f : BV → PR α} {y : α} {q : PEnv} (h : one xs f = .ok y q) : ∃ b, xs = [b] ∧ f b = .ok y q := by
  unfold one at h
  split at h
  · exact ⟨_, rfl, h⟩
  · cases h
theorem one_exc {α : Type} {xs : List BV} {f : BV → PR α} {y : Str} {v : PV} {q : PEnv} (h : one xs f = .exc y v q) : ∃ b, xs = [b] ∧ f b = .exc y v q := by
  unfold one at h
  split at h
  · exact ⟨_, rfl, h⟩
  · cases h
theorem tone_ok {α : Type} {xs : List BV} {f : PV → PR α} {y : α} {q : PEnv} (h : tone xs f = .ok y q) : ∃ b, xs = [⟨b, none⟩] ∧ f b = .ok y q := by
  unfold tone at h
  split at h
  · exact ⟨_, rfl, h⟩
  · cases h
theorem tone_exc {α : Type} {xs : List BV} {f : PV → PR α} {y : Str} {v : PV} {q : PEnv} (h : tone xs f = .exc y v q) : ∃ b, xs = [⟨b, none⟩] ∧ f b = .exc y v q := by
  unfold tone at h
  split at h
  · exact ⟨_, rfl, h⟩
  · cases h
theorem opt_ok {α : Type} {r : Option α} {y : α} {q q' : PEnv} (h : PR.opt r q = .ok y q') : r = some y ∧ q = q' := by
  cases r with
  | none => cases h
  | some a => cases h; exact ⟨rfl, rfl⟩
theorem opt_exc {α : Type} {r : Option α} {y : Str} {v : PV} {q q' : PEnv} (h : PR.opt r q = .exc y v q') : False := by
  cases r <;> cases h
theorem map_some {α β : Type} {r : Option α} {f : α → β} {y : β} (h : r.map f = some y) : ∃ z, r = some z ∧ f z = y := by
  cases r with
  | none => cases h
  | some a => cases h; exact ⟨a, rfl, rfl⟩
theorem bind_some {α β : Type} {r : Option α} {f : α → Option β} {y : β} (h : r.bind f = some y) : ∃ z, r = some z ∧ f z = some y := by
  cases r with
  | none => cases h
  | some a => exact ⟨a, rfl, h⟩
theorem BOk.single {vs : List Val} {y : BV} {z : Cn} (h : BOk st Z e vs [y] z) : ∃ v, vs = [v] := by
  have := h.length
  cases vs with
  | nil => cases this
  | cons v t => cases t with
    | nil => exact ⟨v, rfl⟩
    | cons _ _ => simp at this
theorem BOk.tmp1 {v : Val} {q : PV} {z : Cn} (h : BOk st Z e [v] [⟨q, none⟩] z) : Rep st Z v q z := by
  cases h with
  | tmp r t e1 => cases t with
    | nil z => exact r.cong fun n => by rw [e1, z]; omega
theorem BOk.split : ∀ {vs : List Val} {y : BV} {bs : List BV} {z : Cn}, BOk st Z e vs (y :: bs) z → ∃ (v : Val) (ws : List Val) (z1 z2 : Cn), vs = v :: ws ∧ BOk st Z e [v] [y] z1 ∧ BOk st Z e ws bs z2 ∧ ∀ n, z n = z1 n + z2 n
  | _, _, _, _, .tmp r t e1 => ⟨_, _, _, _, rfl, BOk.one r, t, e1⟩
  | _, _, _, z, .pl e1 e2 t => ⟨_, _, z0, z, rfl, .pl e1 e2 (.nil fun _ => rfl), t, fun n => by simp⟩
end
end Ev

set_option Elab.async false
set_option linter.all false
set_option maxRecDepth 100000
set_option maxHeartbeats 1000000
namespace Ev
open PySem
section
variable {F : Fns} {G : PFns}
theorem sp_const {c : CE} {v : Val} {q : PV} (he : ∀ e st, evalE F c e st = .ok v st) (hp : ∀ m p, evalP G c m p = .ok (tmp q) p) (hl : isL c = false) (hr : ∀ st Z, Rep st Z v q z0) : SP F G c where
  ok := fun {m p p' e st Z o bs} E W h => by
    rw [hp] at h; cases h
    exact ⟨v, st, [v], he e st, by rw [hl]; rfl, Z, z0, o, BOk.one (hr st Z), E, W.mono fun n => by simp, Go.refl fun n => by simp⟩
  exc := fun {m p p' e st Z o x v} E W h => by rw [hp] at h; cases h
theorem sp_var (i : Nat) : SP F G (.var i) where
  ok := fun {m p p' e st Z o bs} E W h => by
    have h : (match p[i]? with | some (some v) => touch m i [] v p | _ => .stuck) = .ok bs p' := h
    split at h
    · rename_i v hv
      obtain ⟨w, a, b, e1, _⟩ := E.at_ hv
      refine ⟨w, st, [w], ?_, rfl, touch_ok E W e1 rfl ?_ h⟩
      · show (match e[i]? with | some (some v) => Res.ok v st | _ => .stuck) = _
        rw [e1]
      · unfold getE; rw [hv]; rfl
    · cases h
  exc := fun {m p p' e st Z o x v} E W h => by
    have h : (match p[i]? with | some (some v) => touch m i [] v p | _ => .stuck) = .exc x v p' := h
    split at h
    · exact (touch_exc h).elim
    · cases h
theorem sp_glob (hF : PF F G) (x : Str) : SP F G (.glob x) where
  ok := fun {m p p' e st Z o bs} E W h => by
    have h : (match G.glob x with | some v => PR.ok (tmp v) p | none => .stuck) = .ok bs p' := h
    split at h
    · rename_i v hv
      cases h
      obtain ⟨w, e1, r⟩ := hF.glob x v hv
      refine ⟨w, st, [w], ?_, rfl, Z, z0, o, BOk.one (r st Z), E, W.mono fun n => by simp, Go.refl fun n => by simp⟩
      show (match F.glob x with | some v => Res.ok v st | none => .stuck) = _
      rw [e1]
    · cases h
  exc := fun {m p p' e st Z o y v} E W h => by
    have h : (match G.glob x with | some v => PR.ok (tmp v) p | none => .stuck) = .exc y v p' := h
    split at h <;> cases h
theorem sp_nil : SP F G .nil where
  ok := fun {m p p' e st Z o bs} E W h => by
    cases h
    exact ⟨.tup [], st, [], rfl, rfl, Z, z0, o, .nil fun _ => rfl, E, W.mono fun n => by simp, Go.refl fun n => by simp⟩
  exc := fun {m p p' e st Z o x v} E W h => by cases h
theorem wrap0 {c : CE} {vs : List Val} {r : Val} (hl : isL c = false) (h : wrapV (isL c) vs r) : vs = [r] := by rw [hl] at h; exact h
theorem wrap1 {c : CE} {vs : List Val} {r : Val} (hl : isL c = true) (h : wrapV (isL c) vs r) : r = .tup vs := by rw [hl] at h; exact h
/-- one value of an expression that is none of a list: its own value -/
theorem SP.one {c : CE} (h : SP F G c) {m : Md} {p p' : PEnv} {e : Env} {st : Store} {Z : Nat → Prop} {o : Cn} {y : BV} (hl : isL c = false) (E : ER st Z e p o) (W : Wf st Z o) (q : evalP G c m p = .ok [y] p') : ∃ r st' Z' a b, evalE F c e st = .ok r st' ∧ BOk st' Z' e [r] [y] a ∧ ER st' Z' e p' b ∧ Wf st' Z' (fun n => a n + b n) ∧ Go st Z o (calm G.io c) st' Z' fun n => a n + b n := by
  obtain ⟨r, st', vs, h1, h2, Z', a, b, B, E', W', G'⟩ := h.ok E W q
  have := wrap0 hl h2
  subst this
  exact ⟨r, st', Z', a, b, h1, B, E', W', G'⟩
/-! terms as they should be -/
def isArgs : CE → Bool
  | .nil => true
  | .cons _ _ => true
  | _ => false
def isKvs : CE → Bool
  | .nil => true
  | .kv _ _ _ => true
  | _ => false
def wfE : CE → Bool
  | .cons a r => (!isL a && wfE a) && (isArgs r && wfE r)
  | .tup a => isArgs a && wfE a
  | .lst a => isArgs a && wfE a
  | .bin _ a b => (!isL a && wfE a) && (!isL b && wfE b)
  | .neg a => !isL a && wfE a
  | .cmp _ a b => (!isL a && wfE a) && (!isL b && wfE b)
  | .chain _ _ a b c => (!isL a && wfE a) && ((!isL b && wfE b) && (!isL c && wfE c))
  | .and1 a => !isL a && wfE a
  | .and2 a r => (!isL a && wfE a) && (!isL r && wfE r)
  | .or1 a => !isL a && wfE a
  | .or2 a r => (!isL a && wfE a) && (!isL r && wfE r)
  | .not_ a => !isL a && wfE a
  | .ifx c a b => (!isL c && wfE c) && ((!isL a && wfE a) && (!isL b && wfE b))
  | .ix a i => (!isL a && wfE a) && (!isL i && wfE i)
  | .slice a l h => (!isL a && wfE a) && ((isNil l || (!isL l && wfE l)) && (isNil h || (!isL h && wfE h)))
  | .rev a => !isL a && wfE a
  | .call _ a => isArgs a && wfE a
  | .bi _ a => isArgs a && wfE a
  | .isi _ a => !isL a && wfE a
  | .meth _ o a => (!isL o && wfE o) && (isArgs a && wfE a)
  | .comp k _ s c e => (match k with | .range => isArgs s && wfE s | .seq => !isL s && wfE s) && ((isNil c || (!isL c && wfE c)) && (!isL e && wfE e))
  | .kv k v r => (!isL k && wfE k) && ((!isL v && wfE v) && (isKvs r && wfE r))
  | .dict p => isKvs p && wfE p
  | .isx _ a => !isL a && wfE a
  | .fld _ a => !isL a && wfE a
  | _ => true
theorem args_L {c : CE} (h : isArgs c = true) : isL c = true := by cases c <;> first | rfl | cases h
theorem kvs_L {c : CE} (h : isKvs c = true) : isL c = true := by cases c <;> first | rfl | cases h

noncomputable def andK (F : Fns) (r : CE) (e : Env) (x : Val) (s1 : Store) : Res Val := match x with | .bool d => if d = true then evalE F r e s1 else .ok (.bool false) s1 | _ => .stuck
noncomputable def orK (F : Fns) (r : CE) (e : Env) (x : Val) (s1 : Store) : Res Val := match x with | .bool d => if d = true then .ok (.bool true) s1 else evalE F r e s1 | _ => .stuck
/-- two, one behind the other -/
theorem SP.two {a b : CE} (ha : SP F G a) (hb : SP F G b) (la : isL a = false) (lb : isL b = false) {m m' : Md} {p p1 p2 : PEnv} {e : Env} {st : Store} {Z : Nat → Prop} {o : Cn} {x y : BV} (E : ER st Z e p o) (W : Wf st Z o) (q1 : evalP G a m p = .ok [x] p1) (q2 : evalP G b m' p1 = .ok [y] p2) (ok : okPl x (calm G.io b) = true) :
    ∃ r1 s1 r2 s2 Z' a' b', evalE F a e st = .ok r1 s1 ∧ evalE F b e s1 = .ok r2 s2 ∧ BOk s2 Z' e [r1, r2] [x, y] a' ∧ ER s2 Z' e p2 b' ∧ Wf s2 Z' (fun n => a' n + b' n) ∧ Go st Z o (calm G.io a && calm G.io b) s2 Z' fun n => a' n + b' n := by
  obtain ⟨r1, s1, Z1, a1, b1, f1, B1, E1, W1, G1⟩ := ha.one la E W q1
  obtain ⟨r2, s2, vs, f2, w2, O2⟩ := hb.ok E1 (W1.mono fun n => by (try dsimp only); omega) q2
  have := wrap0 lb w2
  subst this
  obtain ⟨Z2, a2, b2, B2, E2, W2, G2⟩ := out_seq B1 W1 G1 (fun z hz => by rw [List.mem_singleton.mp hz]; exact ok) O2
  exact ⟨r1, s1, r2, s2, Z2, a2, b2, f1, f2, B2, E2, W2, G2⟩
theorem sp_cons {a r : CE} (ha : SP F G a) (hr : SP F G r) (la : isL a = false) (lr : isArgs r = true) : SP F G (.cons a r) where
  ok := fun {m p p' e st Z o bs} E W h => by
    have h : ((evalP G a m p).bindX fun xs e1 => one xs fun x => (evalP G r m e1).bindX fun ys e2 => if okPl x (calm G.io r) = true then PR.ok (x :: ys) e2 else .stuck) = .ok bs p' := h
    obtain ⟨xs, p1, q1, h⟩ := PR.bindX_ok h
    obtain ⟨x, rfl, h⟩ := one_ok h
    (try dsimp only [Ev.one, Ev.tone] at h)
    obtain ⟨ys, p2, q2, h⟩ := PR.bindX_ok h
    split at h
    · rename_i ok
      cases h
      obtain ⟨r1, s1, Z1, a1, b1, f1, B1, E1, W1, G1⟩ := ha.one la E W q1
      obtain ⟨r2, s2, vs, f2, w2, O2⟩ := hr.ok E1 (W1.mono fun n => by (try dsimp only); omega) q2
      have := wrap1 (args_L lr) w2
      subst this
      refine ⟨.tup (r1 :: vs), s2, r1 :: vs, ?_, rfl, out_seq B1 W1 G1 (fun z hz => by rw [List.mem_singleton.mp hz]; exact ok) O2⟩
      show ((evalE F a e st).bindX fun v s1 => (evalE F r e s1).bindX fun w s2 => match w with | .tup vs => Res.ok (Val.tup (v :: vs)) s2 | _ => .stuck) = _
      rw [f1]
      show ((evalE F r e s1).bindX fun w s2 => match w with | .tup vs => Res.ok (Val.tup (r1 :: vs)) s2 | _ => .stuck) = _
      rw [f2]; rfl
    · cases h
  exc := fun {m p p' e st Z o x v} E W h => by
    have h : ((evalP G a m p).bindX fun xs e1 => one xs fun x => (evalP G r m e1).bindX fun ys e2 => if okPl x (calm G.io r) = true then PR.ok (x :: ys) e2 else .stuck) = .exc x v p' := h
    rcases PR.bindX_exc h with q | ⟨xs, p1, q1, h⟩
    · obtain ⟨w, s1, f1, Z1, b1, R1, nf, E1, W1, G1⟩ := ha.exc E W q
      refine ⟨w, s1, ?_, Z1, b1, R1, nf, E1, W1, ?_⟩
      · show ((evalE F a e st).bindX _) = _
        rw [f1]; rfl
      · exact ⟨G1.len, fun n hn z => G1.keep n hn (z.imp (fun z => by have z : (calm G.io a && calm G.io r) = true := z; exact (Bool.and_eq_true_iff.mp z).1) id), G1.zz, G1.zn, G1.on⟩
    · obtain ⟨x0, rfl, h⟩ := one_exc h
      rcases PR.bindX_exc h with q2 | ⟨ys, p2, q2, h⟩
      · obtain ⟨r1, s1, Z1, a1, b1, f1, B1, E1, W1, G1⟩ := ha.one la E W q1
        obtain ⟨w, s2, f2, O2⟩ := hr.exc E1 (W1.mono fun n => by (try dsimp only); omega) q2
        refine ⟨w, s2, ?_, outx_seq W1 G1 O2⟩
        show ((evalE F a e st).bindX fun v s1 => (evalE F r e s1).bindX fun w s2 => match w with | .tup vs => Res.ok (Val.tup (v :: vs)) s2 | _ => .stuck) = _
        rw [f1]
        show ((evalE F r e s1).bindX _) = _
        rw [f2]; rfl
      · split at h <;> cases h
theorem sp_kv {k v r : CE} (hk : SP F G k) (hv : SP F G v) (hr : SP F G r) (lk : isL k = false) (lv : isL v = false) (lr : isKvs r = true) : SP F G (.kv k v r) where
  ok := fun {m p p' e st Z o bs} E W h => by
    have h : ((evalP G k .sh p).bind fun xs e1 => tone xs fun x => (evalP G v .sh e1).bind fun ys e2 => tone ys fun y => (evalP G r .sh e2).bind fun ws e3 => PR.ok (⟨x, none⟩ :: ⟨y, none⟩ :: ws) e3) = .ok bs p' := h
    obtain ⟨xs, p1, q1, h⟩ := PR.bind_ok h
    obtain ⟨x, rfl, h⟩ := tone_ok h
    (try dsimp only [Ev.one, Ev.tone] at h)
    obtain ⟨ys, p2, q2, h⟩ := PR.bind_ok h
    obtain ⟨y, rfl, h⟩ := tone_ok h
    (try dsimp only [Ev.one, Ev.tone] at h)
    obtain ⟨ws, p3, q3, h⟩ := PR.bind_ok h
    cases h
    obtain ⟨r1, s1, r2, s2, Z2, a2, b2, f1, f2, B2, E2, W2, G2⟩ := hk.two hv lk lv E W q1 q2 rfl
    obtain ⟨r3, s3, vs, f3, w3, O3⟩ := hr.ok E2 (W2.mono fun n => by (try dsimp only); omega) q3
    have := wrap1 (kvs_L lr) w3
    subst this
    refine ⟨.tup (r1 :: r2 :: vs), s3, r1 :: r2 :: vs, ?_, rfl, ?_⟩
    · show ((evalE F k e st).bind fun x s1 => (evalE F v e s1).bind fun y s2 => (evalE F r e s2).bind fun w s3 => match w with | .tup vs => Res.ok (Val.tup (x :: y :: vs)) s3 | _ => .stuck) = _
      rw [f1]
      show ((evalE F v e s1).bind fun y s2 => (evalE F r e s2).bind fun w s3 => match w with | .tup vs => Res.ok (Val.tup (r1 :: y :: vs)) s3 | _ => .stuck) = _
      rw [f2]
      show ((evalE F r e s2).bind fun w s3 => match w with | .tup vs => Res.ok (Val.tup (r1 :: r2 :: vs)) s3 | _ => .stuck) = _
      rw [f3]; rfl
    · have := out_seq B2 W2 G2 (fun z hz => by simp at hz; rcases hz with rfl | rfl <;> rfl) O3
      have e1 : (calm G.io k && calm G.io v && calm G.io r) = calm G.io (.kv k v r) := by simp [calm, Bool.and_assoc]
      rw [e1] at this
      exact this
  exc := fun {m p p' e st Z o x u} E W h => by
    have h : ((evalP G k .sh p).bind fun xs e1 => tone xs fun x => (evalP G v .sh e1).bind fun ys e2 => tone ys fun y => (evalP G r .sh e2).bind fun ws e3 => PR.ok (⟨x, none⟩ :: ⟨y, none⟩ :: ws) e3) = .exc x u p' := h
    obtain ⟨xs, p1, q1, h⟩ := PR.bind_exc h
    obtain ⟨_, rfl, h⟩ := tone_exc h
    (try dsimp only [Ev.one, Ev.tone] at h)
    obtain ⟨ys, p2, q2, h⟩ := PR.bind_exc h
    obtain ⟨_, rfl, h⟩ := tone_exc h
    (try dsimp only [Ev.one, Ev.tone] at h)
    obtain ⟨ws, p3, q3, h⟩ := PR.bind_exc h
    cases h
/-- arguments, then what is made of them -/
theorem SP.all {c : CE} (h : SP F G c) {m : Md} {p p' : PEnv} {e : Env} {st : Store} {Z : Nat → Prop} {o : Cn} {bs : List BV} (hl : isL c = true) (E : ER st Z e p o) (W : Wf st Z o) (q : evalP G c m p = .ok bs p') : ∃ vs st' Z' a b, evalE F c e st = .ok (.tup vs) st' ∧ BOk st' Z' e vs bs a ∧ ER st' Z' e p' b ∧ Wf st' Z' (fun n => a n + b n) ∧ Go st Z o (calm G.io c) st' Z' fun n => a n + b n := by
  obtain ⟨r, st', vs, h1, h2, Z', a, b, B, E', W', G'⟩ := h.ok E W q
  have := wrap1 hl h2
  subst this
  exact ⟨vs, st', Z', a, b, h1, B, E', W', G'⟩
theorem sp_tup {args : CE} (ha : SP F G args) (la : isArgs args = true) : SP F G (.tup args) where
  ok := fun {m p p' e st Z o bs} E W h => by
    have h : ((evalP G args (mvSh m) p).bind fun xs e1 => (match tvals xs with | some vs => if vs.length ≤ sizeLine then PR.ok (tmp (.tup vs)) e1 else .stuck | none => .stuck)) = .ok bs p' := h
    obtain ⟨xs, p1, q1, h⟩ := PR.bind_ok h
    obtain ⟨vs, s1, Z1, a1, b1, f1, B1, E1, W1, G1⟩ := ha.all (args_L la) E W q1
    split at h
    · rename_i us hu
      split at h
      · rename_i hl
        cases h
        have t := tvals_ok B1 hu
        rw [← t.length] at hl
        refine ⟨.tup vs, s1, [.tup vs], ?_, rfl, out_val (.tup t) (fun n => Nat.le_refl _) E1 W1 G1⟩
        show ((evalE F args e st).bind fun w s1 => match w with | .tup vs => need (vs.length ≤ sizeLine) (Res.ok (Val.tup vs) s1) | _ => .stuck) = _
        rw [f1]
        exact if_pos hl
      · cases h
    · cases h
  exc := fun {m p p' e st Z o x u} E W h => by
    have h : ((evalP G args (mvSh m) p).bind fun xs e1 => (match tvals xs with | some vs => if vs.length ≤ sizeLine then PR.ok (tmp (.tup vs)) e1 else .stuck | none => .stuck)) = .exc x u p' := h
    obtain ⟨xs, p1, q1, h⟩ := PR.bind_exc h
    split at h
    · split at h <;> cases h
    · cases h
theorem sp_lst {args : CE} (ha : SP F G args) (la : isArgs args = true) : SP F G (.lst args) where
  ok := fun {m p p' e st Z o bs} E W h => by
    have h : ((evalP G args .sh p).bind fun xs e1 => (match tvals xs with | some vs => if vs.length ≤ sizeLine then PR.ok (tmp (.lst true vs)) e1 else .stuck | none => .stuck)) = .ok bs p' := h
    obtain ⟨xs, p1, q1, h⟩ := PR.bind_ok h
    obtain ⟨vs, s1, Z1, a1, b1, f1, B1, E1, W1, G1⟩ := ha.all (args_L la) E W q1
    split at h
    · rename_i us hu
      split at h
      · rename_i hl
        cases h
        have t := tvals_ok B1 hu
        rw [← t.length] at hl
        refine ⟨.ref s1.length, s1 ++ [Cell.lst vs], [.ref s1.length], ?_, rfl, out_list t E1 W1 G1⟩
        show ((evalE F args e st).bind fun w s1 => match w with | .tup vs => need (vs.length ≤ sizeLine) (Res.ok (Val.ref s1.length) (s1 ++ [Cell.lst vs])) | _ => .stuck) = _
        rw [f1]
        exact if_pos hl
      · cases h
    · cases h
  exc := fun {m p p' e st Z o x u} E W h => by
    have h : ((evalP G args .sh p).bind fun xs e1 => (match tvals xs with | some vs => if vs.length ≤ sizeLine then PR.ok (tmp (.lst true vs)) e1 else .stuck | none => .stuck)) = .exc x u p' := h
    obtain ⟨xs, p1, q1, h⟩ := PR.bind_exc h
    split at h
    · split at h <;> cases h
    · cases h
theorem BOk.pair {st : Store} {Z : Nat → Prop} {e : Env} {v w : Val} {x y : BV} {a : Cn} (h : BOk st Z e [v, w] [x, y] a) : ∃ a1 a2, BOk st Z e [v] [x] a1 ∧ BOk st Z e [w] [y] a2 ∧ ∀ n, a n = a1 n + a2 n := by
  obtain ⟨v', ws, z1, z2, e1, B1, B2, e2⟩ := h.split
  cases e1
  exact ⟨z1, z2, B1, B2, e2⟩
theorem sp_bin {op : Bop} {a b : CE} (ha : SP F G a) (hb : SP F G b) (la : isL a = false) (lb : isL b = false) : SP F G (.bin op a b) where
  ok := fun {m p p' e st Z o bs} E W h => by
    have h : ((evalP G a .ki p).bind fun xs e1 => one xs fun x => (evalP G b .ki e1).bind fun ys e2 => one ys fun y =>
      if okPl x (calm G.io b) = true then PR.opt (((cur x e2).bind fun v => (cur y e2).bind fun w => kids v (kids w (pbin op v w))).map tmp) e2 else .stuck) = .ok bs p' := h
    obtain ⟨xs, p1, q1, h⟩ := PR.bind_ok h
    obtain ⟨x, rfl, h⟩ := one_ok h
    (try dsimp only [Ev.one, Ev.tone] at h)
    obtain ⟨ys, p2, q2, h⟩ := PR.bind_ok h
    obtain ⟨y, rfl, h⟩ := one_ok h
    (try dsimp only [Ev.one, Ev.tone] at h)
    split at h
    · rename_i ok
      obtain ⟨h2, rfl⟩ := opt_ok h
      obtain ⟨z, h3, rfl⟩ := map_some h2
      obtain ⟨v, hv, h4⟩ := bind_some h3
      obtain ⟨w, hw, h5⟩ := bind_some h4
      obtain ⟨k1, h6⟩ := kids_of h5
      obtain ⟨k2, h7⟩ := kids_of h6
      obtain ⟨r1, s1, r2, s2, Z2, a2, b2, f1, f2, B2, E2, W2, G2⟩ := ha.two hb la lb E W q1 q2 ok
      obtain ⟨c1, c2, B3, B4, _⟩ := B2.pair
      obtain ⟨d1, R1, _⟩ := cur_ok B3 E2 hv
      obtain ⟨d2, R2, _⟩ := cur_ok B4 E2 hw
      obtain ⟨u, s', f3, N⟩ := pq_bin R1 R2 k1 k2 h7
      refine ⟨u, s', [u], ?_, rfl, out_new E2 W2 G2 N⟩
      show ((evalE F a e st).bind fun x s1 => (evalE F b e s1).bind fun y s2 => binop op x y s2) = _
      rw [f1]
      show ((evalE F b e s1).bind fun y s2 => binop op r1 y s2) = _
      rw [f2]
      exact f3
    · cases h
  exc := fun {m p p' e st Z o x u} E W h => by
    have h : ((evalP G a .ki p).bind fun xs e1 => one xs fun x => (evalP G b .ki e1).bind fun ys e2 => one ys fun y =>
      if okPl x (calm G.io b) = true then PR.opt (((cur x e2).bind fun v => (cur y e2).bind fun w => kids v (kids w (pbin op v w))).map tmp) e2 else .stuck) = .exc x u p' := h
    obtain ⟨xs, p1, q1, h⟩ := PR.bind_exc h
    obtain ⟨_, rfl, h⟩ := one_exc h
    (try dsimp only [Ev.one, Ev.tone] at h)
    obtain ⟨ys, p2, q2, h⟩ := PR.bind_exc h
    obtain ⟨_, rfl, h⟩ := one_exc h
    (try dsimp only [Ev.one, Ev.tone] at h)
    split at h
    · exact (opt_exc h).elim
    · cases h
theorem sp_cmp {op : Cop} {a b : CE} (ha : SP F G a) (hb : SP F G b) (la : isL a = false) (lb : isL b = false) : SP F G (.cmp op a b) where
  ok := fun {m p p' e st Z o bs} E W h => by
    have h : ((evalP G a .bo p).bind fun xs e1 => one xs fun x => (evalP G b .bo e1).bind fun ys e2 => one ys fun y =>
      if okPl x (calm G.io b) = true then PR.opt (((cur x e2).bind fun v => (cur y e2).bind fun w => pcmp op v w).map tmp) e2 else .stuck) = .ok bs p' := h
    obtain ⟨xs, p1, q1, h⟩ := PR.bind_ok h
    obtain ⟨x, rfl, h⟩ := one_ok h
    (try dsimp only [Ev.one, Ev.tone] at h)
    obtain ⟨ys, p2, q2, h⟩ := PR.bind_ok h
    obtain ⟨y, rfl, h⟩ := one_ok h
    (try dsimp only [Ev.one, Ev.tone] at h)
    split at h
    · rename_i ok
      obtain ⟨h2, rfl⟩ := opt_ok h
      obtain ⟨z, h3, rfl⟩ := map_some h2
      obtain ⟨v, hv, h4⟩ := bind_some h3
      obtain ⟨w, hw, h5⟩ := bind_some h4
      obtain ⟨r1, s1, r2, s2, Z2, a2, b2, f1, f2, B2, E2, W2, G2⟩ := ha.two hb la lb E W q1 q2 ok
      obtain ⟨c1, c2, B3, B4, _⟩ := B2.pair
      obtain ⟨d1, R1, _⟩ := cur_ok B3 E2 hv
      obtain ⟨d2, R2, _⟩ := cur_ok B4 E2 hw
      obtain ⟨t, rfl, f3⟩ := pq_cmp R1 R2 h5
      refine ⟨.bool t, s2, [.bool t], ?_, rfl, out_new E2 W2 G2 (.here (.bool t fun _ => rfl))⟩
      show ((evalE F a e st).bind fun x s1 => (evalE F b e s1).bind fun y s2 => cmpop op x y s2) = _
      rw [f1]
      show ((evalE F b e s1).bind fun y s2 => cmpop op r1 y s2) = _
      rw [f2]
      exact f3
    · cases h
  exc := fun {m p p' e st Z o x u} E W h => by
    have h : ((evalP G a .bo p).bind fun xs e1 => one xs fun x => (evalP G b .bo e1).bind fun ys e2 => one ys fun y =>
      if okPl x (calm G.io b) = true then PR.opt (((cur x e2).bind fun v => (cur y e2).bind fun w => pcmp op v w).map tmp) e2 else .stuck) = .exc x u p' := h
    obtain ⟨xs, p1, q1, h⟩ := PR.bind_exc h
    obtain ⟨_, rfl, h⟩ := one_exc h
    (try dsimp only [Ev.one, Ev.tone] at h)
    obtain ⟨ys, p2, q2, h⟩ := PR.bind_exc h
    obtain ⟨_, rfl, h⟩ := one_exc h
    (try dsimp only [Ev.one, Ev.tone] at h)
    split at h
    · exact (opt_exc h).elim
    · cases h
theorem sp_neg {a : CE} (ha : SP F G a) (la : isL a = false) : SP F G (.neg a) where
  ok := fun {m p p' e st Z o bs} E W h => by
    have h : ((evalP G a .bo p).bind fun xs e1 => tone xs fun v => (match v with | .int i => PR.ok (tmp (.int (-i))) e1 | _ => .stuck)) = .ok bs p' := h
    obtain ⟨xs, p1, q1, h⟩ := PR.bind_ok h
    obtain ⟨v, rfl, h⟩ := tone_ok h
    (try dsimp only [Ev.one, Ev.tone] at h)
    obtain ⟨r1, s1, Z1, a1, b1, f1, B1, E1, W1, G1⟩ := ha.one la E W q1
    have R := B1.tmp1
    cases R with
    | int i =>
      cases h
      refine ⟨.int (-i), s1, [.int (-i)], ?_, rfl, out_new E1 W1 G1 (.here (.int _ fun _ => rfl))⟩
      show ((evalE F a e st).bind fun x s1 => match x with | .int i => Res.ok (Val.int (-i)) s1 | _ => .stuck) = _
      rw [f1]; rfl
    | _ => cases h
  exc := fun {m p p' e st Z o x u} E W h => by
    have h : ((evalP G a .bo p).bind fun xs e1 => tone xs fun v => (match v with | .int i => PR.ok (tmp (.int (-i))) e1 | _ => .stuck)) = .exc x u p' := h
    obtain ⟨xs, p1, q1, h⟩ := PR.bind_exc h
    obtain ⟨v, rfl, h⟩ := tone_exc h
    (try dsimp only [Ev.one, Ev.tone] at h)
    split at h <;> cases h
theorem sp_and1 {a : CE} (ha : SP F G a) (la : isL a = false) : SP F G (.and1 a) where
  ok := fun {m p p' e st Z o bs} E W h => by
    obtain ⟨r, s1, vs, h1, h2, h3⟩ := ha.ok E W (show evalP G a m p = .ok bs p' from h)
    exact ⟨r, s1, vs, h1, wrap0 la h2, h3⟩
  exc := fun {m p p' e st Z o x u} E W h => ha.exc E W (show evalP G a m p = .exc x u p' from h)
theorem sp_or1 {a : CE} (ha : SP F G a) (la : isL a = false) : SP F G (.or1 a) where
  ok := fun {m p p' e st Z o bs} E W h => by
    obtain ⟨r, s1, vs, h1, h2, h3⟩ := ha.ok E W (show evalP G a m p = .ok bs p' from h)
    exact ⟨r, s1, vs, h1, wrap0 la h2, h3⟩
  exc := fun {m p p' e st Z o x u} E W h => ha.exc E W (show evalP G a m p = .exc x u p' from h)
/-- what comes behind, where nothing is held -/
theorem out_then {e : Env} {st st1 st2 : Store} {Z Z1 : Nat → Prop} {o a b : Cn} {k1 k2 : Bool} {ws : List Val} {cs : List BV} {p2 : PEnv} (W : Wf st1 Z1 fun n => a n + b n) (g : Go st Z o k1 st1 Z1 fun n => a n + b n) (h : OutOk st1 Z1 b e k2 st2 ws cs p2) : OutOk st Z o e (k1 && k2) st2 ws cs p2 :=
  out_seq (a := z0) (.nil fun _ => rfl) (W.mono fun n => by simp) (g.weak fun n => by simp) (fun z hz => by cases hz) h
theorem OutOk.less {e : Env} {st st' : Store} {Z : Nat → Prop} {o : Cn} {k k' : Bool} {vs : List Val} {bs : List BV} {p' : PEnv} (h : OutOk st Z o e k st' vs bs p') (hk : k' = true → k = true) : OutOk st Z o e k' st' vs bs p' := by
  obtain ⟨Z', a, b, B, E, W, g⟩ := h
  exact ⟨Z', a, b, B, E, W, g.len, fun n hn q => g.keep n hn (q.imp hk id), g.zz, g.zn, g.on⟩
theorem OutX.less {e : Env} {st st' : Store} {Z : Nat → Prop} {o : Cn} {k k' : Bool} {w : Val} {v : PV} {p' : PEnv} (h : OutX st Z o e k st' w v p') (hk : k' = true → k = true) : OutX st Z o e k' st' w v p' := by
  obtain ⟨Z', b, R, nf, E, W, g⟩ := h
  exact ⟨Z', b, R, nf, E, W, g.len, fun n hn q => g.keep n hn (q.imp hk id), g.zz, g.zn, g.on⟩
theorem sp_and2 {a r : CE} (ha : SP F G a) (hr : SP F G r) (la : isL a = false) (lr : isL r = false) : SP F G (.and2 a r) where
  ok := fun {m p p' e st Z o bs} E W h => by
    have h : ((evalP G a .bo p).bind fun xs e1 => tone xs fun v => (match v with
      | .bool d => if d = true then evalP G r m e1 else PR.ok (tmp (.bool false)) e1
      | _ => .stuck)) = .ok bs p' := h
    obtain ⟨xs, p1, q1, h⟩ := PR.bind_ok h
    obtain ⟨v, rfl, h⟩ := tone_ok h
    (try dsimp only [Ev.one, Ev.tone] at h)
    obtain ⟨r1, s1, Z1, a1, b1, f1, B1, E1, W1, G1⟩ := ha.one la E W q1
    have R := B1.tmp1
    have run : evalE F (.and2 a r) e st = andK F r e r1 s1 := by
      show (evalE F a e st).bind (andK F r e) = _
      rw [f1]; rfl
    rw [run]
    cases R with
    | bool d =>
      cases d with
      | true =>
        obtain ⟨r2, s2, vs, f2, w2, O2⟩ := hr.ok E1 (W1.mono fun n => by (try dsimp only); omega) h
        exact ⟨r2, s2, vs, f2, wrap0 lr w2, out_then W1 G1 O2⟩
      | false =>
        cases h
        exact ⟨.bool false, s1, [.bool false], rfl, rfl, (out_new E1 W1 G1 (.here (.bool _ fun _ => rfl))).less fun z => (Bool.and_eq_true_iff.mp z).1⟩
    | _ => cases h
  exc := fun {m p p' e st Z o x u} E W h => by
    have h : ((evalP G a .bo p).bind fun xs e1 => tone xs fun v => (match v with
      | .bool d => if d = true then evalP G r m e1 else PR.ok (tmp (.bool false)) e1
      | _ => .stuck)) = .exc x u p' := h
    obtain ⟨xs, p1, q1, h⟩ := PR.bind_exc h
    obtain ⟨v, rfl, h⟩ := tone_exc h
    (try dsimp only [Ev.one, Ev.tone] at h)
    obtain ⟨r1, s1, Z1, a1, b1, f1, B1, E1, W1, G1⟩ := ha.one la E W q1
    have R := B1.tmp1
    have run : evalE F (.and2 a r) e st = andK F r e r1 s1 := by
      show (evalE F a e st).bind (andK F r e) = _
      rw [f1]; rfl
    rw [run]
    cases R with
    | bool d =>
      cases d with
      | true =>
        obtain ⟨w, s2, f2, O2⟩ := hr.exc E1 (W1.mono fun n => by (try dsimp only); omega) h
        exact ⟨w, s2, f2, outx_seq W1 G1 O2⟩
      | false => cases h
    | _ => cases h
theorem sp_or2 {a r : CE} (ha : SP F G a) (hr : SP F G r) (la : isL a = false) (lr : isL r = false) : SP F G (.or2 a r) where
  ok := fun {m p p' e st Z o bs} E W h => by
    have h : ((evalP G a .bo p).bind fun xs e1 => tone xs fun v => (match v with
      | .bool d => if d = true then PR.ok (tmp (.bool true)) e1 else evalP G r m e1
      | _ => .stuck)) = .ok bs p' := h
    obtain ⟨xs, p1, q1, h⟩ := PR.bind_ok h
    obtain ⟨v, rfl, h⟩ := tone_ok h
    (try dsimp only [Ev.one, Ev.tone] at h)
    obtain ⟨r1, s1, Z1, a1, b1, f1, B1, E1, W1, G1⟩ := ha.one la E W q1
    have R := B1.tmp1
    have run : evalE F (.or2 a r) e st = orK F r e r1 s1 := by
      show (evalE F a e st).bind (orK F r e) = _
      rw [f1]; rfl
    rw [run]
    cases R with
    | bool d =>
      cases d with
      | false =>
        obtain ⟨r2, s2, vs, f2, w2, O2⟩ := hr.ok E1 (W1.mono fun n => by (try dsimp only); omega) h
        exact ⟨r2, s2, vs, f2, wrap0 lr w2, out_then W1 G1 O2⟩
      | true =>
        cases h
        exact ⟨.bool true, s1, [.bool true], rfl, rfl, (out_new E1 W1 G1 (.here (.bool _ fun _ => rfl))).less fun z => (Bool.and_eq_true_iff.mp z).1⟩
    | _ => cases h
  exc := fun {m p p' e st Z o x u} E W h => by
    have h : ((evalP G a .bo p).bind fun xs e1 => tone xs fun v => (match v with
      | .bool d => if d = true then PR.ok (tmp (.bool true)) e1 else evalP G r m e1
      | _ => .stuck)) = .exc x u p' := h
    obtain ⟨xs, p1, q1, h⟩ := PR.bind_exc h
    obtain ⟨v, rfl, h⟩ := tone_exc h
    (try dsimp only [Ev.one, Ev.tone] at h)
    obtain ⟨r1, s1, Z1, a1, b1, f1, B1, E1, W1, G1⟩ := ha.one la E W q1
    have R := B1.tmp1
    have run : evalE F (.or2 a r) e st = orK F r e r1 s1 := by
      show (evalE F a e st).bind (orK F r e) = _
      rw [f1]; rfl
    rw [run]
    cases R with
    | bool d =>
      cases d with
      | false =>
        obtain ⟨w, s2, f2, O2⟩ := hr.exc E1 (W1.mono fun n => by (try dsimp only); omega) h
        exact ⟨w, s2, f2, outx_seq W1 G1 O2⟩
      | true => cases h
    | _ => cases h
/-- a test -/
theorem SP.test {c : CE} (h : SP F G c) {p p1 p2 : PEnv} {e : Env} {st : Store} {Z : Nat → Prop} {o : Cn} {x : BV} {t : Bool} (hl : isL c = false) (E : ER st Z e p o) (W : Wf st Z o) (q : evalP G c .bo p = .ok [x] p1) (q2 : tests x p1 = .ok t p2) : ∃ r st' Z' b, evalE F c e st = .ok r st' ∧ testV r st' = .ok t st' ∧ ER st' Z' e p2 b ∧ Wf st' Z' b ∧ Go st Z o (calm G.io c) st' Z' b := by
  obtain ⟨r1, s1, Z1, a1, b1, f1, B1, E1, W1, G1⟩ := h.one hl E W q
  obtain ⟨q3, rfl⟩ := opt_ok q2
  obtain ⟨v, q4, q5⟩ := bind_some q3
  obtain ⟨d, R, _⟩ := cur_ok B1 E1 q4
  refine ⟨r1, s1, Z1, b1, f1, ?_, E1, W1.mono fun n => by (try dsimp only); omega, G1.weak fun n => by (try dsimp only); omega⟩
  unfold testV
  rw [pq_truth R q5]
theorem tests_exc {x : BV} {p p1 : PEnv} {y : Str} {v : PV} (h : tests x p = .exc y v p1) : False := opt_exc h
theorem sp_not {a : CE} (ha : SP F G a) (la : isL a = false) : SP F G (.not_ a) where
  ok := fun {m p p' e st Z o bs} E W h => by
    have h : ((evalP G a .bo p).bind fun xs e1 => one xs fun x => (tests x e1).bind fun b e2 => PR.ok (tmp (.bool (!b))) e2) = .ok bs p' := h
    obtain ⟨xs, p1, q1, h⟩ := PR.bind_ok h
    obtain ⟨x, rfl, h⟩ := one_ok h
    (try dsimp only [Ev.one, Ev.tone] at h)
    obtain ⟨t, p2, q2, h⟩ := PR.bind_ok h
    cases h
    obtain ⟨r1, s1, Z1, b1, f1, f2, E1, W1, G1⟩ := ha.test la E W q1 q2
    refine ⟨.bool (!t), s1, [.bool (!t)], ?_, rfl, out_new (a := z0) E1 (W1.mono fun n => by simp) (G1.weak fun n => by simp) (.here (.bool _ fun _ => rfl))⟩
    show ((evalE F a e st).bind fun x s1 => (testV x s1).bind fun b s2 => Res.ok (Val.bool (!b)) s2) = _
    rw [f1]
    show ((testV r1 s1).bind fun b s2 => Res.ok (Val.bool (!b)) s2) = _
    rw [f2]; rfl
  exc := fun {m p p' e st Z o x u} E W h => by
    have h : ((evalP G a .bo p).bind fun xs e1 => one xs fun x => (tests x e1).bind fun b e2 => PR.ok (tmp (.bool (!b))) e2) = .exc x u p' := h
    obtain ⟨xs, p1, q1, h⟩ := PR.bind_exc h
    obtain ⟨x, rfl, h⟩ := one_exc h
    (try dsimp only [Ev.one, Ev.tone] at h)
    obtain ⟨t, p2, q2, h⟩ := PR.bind_exc h
    cases h
theorem sp_ifx {c a b : CE} (hc : SP F G c) (ha : SP F G a) (hb : SP F G b) (lc : isL c = false) (la : isL a = false) (lb : isL b = false) : SP F G (.ifx c a b) where
  ok := fun {m p p' e st Z o bs} E W h => by
    have h : ((evalP G c .bo p).bind fun xs e1 => one xs fun x => (tests x e1).bind fun t e2 => if t = true then evalP G a m e2 else evalP G b m e2) = .ok bs p' := h
    obtain ⟨xs, p1, q1, h⟩ := PR.bind_ok h
    obtain ⟨x, rfl, h⟩ := one_ok h
    (try dsimp only [Ev.one, Ev.tone] at h)
    obtain ⟨t, p2, q2, h⟩ := PR.bind_ok h
    obtain ⟨r1, s1, Z1, b1, f1, f2, E1, W1, G1⟩ := hc.test lc E W q1 q2
    have run : evalE F (.ifx c a b) e st = if t = true then evalE F a e s1 else evalE F b e s1 := by
      show ((evalE F c e st).bind fun x s1 => (testV x s1).bind fun t s2 => if t = true then evalE F a e s2 else evalE F b e s2) = _
      rw [f1]
      show ((testV r1 s1).bind fun t s2 => if t = true then evalE F a e s2 else evalE F b e s2) = _
      rw [f2]; rfl
    rw [run]
    cases t with
    | true =>
      obtain ⟨r2, s2, vs, g1, w2, O2⟩ := ha.ok E1 W1 h
      exact ⟨r2, s2, vs, g1, wrap0 la w2, (out_then (a := z0) (W1.mono fun n => by simp) (G1.weak fun n => by simp) O2).less fun z => by have z : (calm G.io c && (calm G.io a && calm G.io b)) = true := z; simp only [Bool.and_eq_true] at z ⊢; exact ⟨z.1, z.2.1⟩⟩
    | false =>
      obtain ⟨r2, s2, vs, g1, w2, O2⟩ := hb.ok E1 W1 h
      exact ⟨r2, s2, vs, g1, wrap0 lb w2, (out_then (a := z0) (W1.mono fun n => by simp) (G1.weak fun n => by simp) O2).less fun z => by have z : (calm G.io c && (calm G.io a && calm G.io b)) = true := z; simp only [Bool.and_eq_true] at z ⊢; exact ⟨z.1, z.2.2⟩⟩
  exc := fun {m p p' e st Z o x u} E W h => by
    have h : ((evalP G c .bo p).bind fun xs e1 => one xs fun x => (tests x e1).bind fun t e2 => if t = true then evalP G a m e2 else evalP G b m e2) = .exc x u p' := h
    obtain ⟨xs, p1, q1, h⟩ := PR.bind_exc h
    obtain ⟨x, rfl, h⟩ := one_exc h
    (try dsimp only [Ev.one, Ev.tone] at h)
    obtain ⟨t, p2, q2, h⟩ := PR.bind_exc h
    obtain ⟨r1, s1, Z1, b1, f1, f2, E1, W1, G1⟩ := hc.test lc E W q1 q2
    have run : evalE F (.ifx c a b) e st = if t = true then evalE F a e s1 else evalE F b e s1 := by
      show ((evalE F c e st).bind fun x s1 => (testV x s1).bind fun t s2 => if t = true then evalE F a e s2 else evalE F b e s2) = _
      rw [f1]
      show ((testV r1 s1).bind fun t s2 => if t = true then evalE F a e s2 else evalE F b e s2) = _
      rw [f2]; rfl
    rw [run]
    cases t with
    | true =>
      obtain ⟨w, s2, g1, O2⟩ := ha.exc E1 W1 h
      exact ⟨w, s2, g1, (outx_seq (a := z0) (W1.mono fun n => by simp) (G1.weak fun n => by simp) O2).less fun z => by have z : (calm G.io c && (calm G.io a && calm G.io b)) = true := z; simp only [Bool.and_eq_true] at z ⊢; exact ⟨z.1, z.2.1⟩⟩
    | false =>
      obtain ⟨w, s2, g1, O2⟩ := hb.exc E1 W1 h
      exact ⟨w, s2, g1, (outx_seq (a := z0) (W1.mono fun n => by simp) (G1.weak fun n => by simp) O2).less fun z => by have z : (calm G.io c && (calm G.io a && calm G.io b)) = true := z; simp only [Bool.and_eq_true] at z ⊢; exact ⟨z.1, z.2.2⟩⟩
end
end Ev

set_option Elab.async false
set_option linter.all false
set_option maxRecDepth 100000
set_option maxHeartbeats 1000000
namespace Ev
open PySem
section
variable {F : Fns} {G : PFns}
noncomputable def chainK (F : Fns) (op' : Cop) (c : CE) (e : Env) (y : Val) (r : Val) (s3 : Store) : Res Val := match r with
    | .bool d => if d = true then (evalE F c e s3).bind fun z s4 => cmpop op' y z s4 else .ok (.bool false) s3
    | _ => .stuck
theorem sp_chain {op op' : Cop} {a b c : CE} (ha : SP F G a) (hb : SP F G b) (hc : SP F G c) (la : isL a = false) (lb : isL b = false) (lc : isL c = false) : SP F G (.chain op op' a b c) where
  ok := fun {m p p' e st Z o bs} E W h => by
    have h : ((evalP G a .bo p).bind fun xs e1 => tone xs fun v => (evalP G b .bo e1).bind fun ys e2 => tone ys fun w =>
      (match asBool (pcmp op v w) with
        | some d => if d = true then (evalP G c .bo e2).bind fun zs e3 => tone zs fun u => PR.opt ((pcmp op' w u).map tmp) e3
          else PR.ok (tmp (.bool false)) e2
        | none => .stuck)) = .ok bs p' := h
    obtain ⟨xs, p1, q1, h1⟩ := PR.bind_ok h
    obtain ⟨v, hx, h2⟩ := tone_ok h1
    subst hx
    obtain ⟨ys, p2, q2, h3⟩ := PR.bind_ok h2
    obtain ⟨w, hy, h4⟩ := tone_ok h3
    subst hy
    obtain ⟨r1, s1, r2, s2, Z2, a2, b2, f1, f2, B2, E2, W2, G2⟩ := ha.two hb la lb E W q1 q2 rfl
    obtain ⟨c1, c2, B3, B4, hc12⟩ := B2.pair
    have R1 := B3.tmp1
    have R2 := B4.tmp1
    split at h4
    · rename_i d hd
      obtain ⟨t, ht⟩ : ∃ t, pcmp op v w = some (.bool t) ∧ t = d := by
        unfold asBool at hd
        split at hd
        · rename_i t ht; cases hd; exact ⟨_, ht, rfl⟩
        · cases hd
      obtain ⟨ht, rfl⟩ := ht
      obtain ⟨t', e1, f3⟩ := pq_cmp R1 R2 ht
      cases e1
      have run : evalE F (.chain op op' a b c) e st = chainK F op' c e r2 (.bool t) s2 := by
        show ((evalE F a e st).bind fun x s1 => (evalE F b e s1).bind fun y s2 => (cmpop op x y s2).bind (chainK F op' c e y)) = _
        rw [f1]
        show ((evalE F b e s1).bind fun y s2 => (cmpop op r1 y s2).bind (chainK F op' c e y)) = _
        rw [f2]
        show (cmpop op r1 r2 s2).bind (chainK F op' c e r2) = _
        rw [f3]; rfl
      rw [run]
      cases t with
      | true =>
        obtain ⟨zs, p3, q3, h5⟩ := PR.bind_ok h4
        obtain ⟨u, hz, h6⟩ := tone_ok h5
        subst hz
        obtain ⟨h7, hp⟩ := opt_ok h6
        subst hp
        obtain ⟨x, h8, hx⟩ := map_some h7
        subst hx
        obtain ⟨r3, s3, vs, f4, w3, O3⟩ := hc.ok E2 (W2.mono fun n => by (try dsimp only); omega) q3
        have := wrap0 lc w3
        subst this
        obtain ⟨Z3, a3, b3, B5, E3, W3, G3⟩ := out_seq B4 (W2.mono fun n => by have := hc12 n; (try dsimp only); omega) (G2.weak fun n => by have := hc12 n; (try dsimp only); omega) (fun z hz => by rw [List.mem_singleton.mp hz]; rfl) O3
        obtain ⟨c3, c4, B6, B7, _⟩ := BOk.pair (v := r2) (w := r3) B5
        obtain ⟨t3, rfl, f5⟩ := pq_cmp B6.tmp1 B7.tmp1 h8
        refine ⟨.bool t3, s3, [.bool t3], ?_, rfl, (out_new E3 W3 G3 (.here (.bool _ fun _ => rfl))).less fun z => by have z : (calm G.io a && (calm G.io b && calm G.io c)) = true := z; simp only [Bool.and_eq_true] at z ⊢; exact ⟨⟨z.1, z.2.1⟩, z.2.2⟩⟩
        show ((evalE F c e s2).bind fun z s4 => cmpop op' r2 z s4) = _
        rw [f4]; exact f5
      | false =>
        cases h4
        exact ⟨.bool false, s2, [.bool false], rfl, rfl, (out_new E2 W2 G2 (.here (.bool _ fun _ => rfl))).less fun z => by have z : (calm G.io a && (calm G.io b && calm G.io c)) = true := z; simp only [Bool.and_eq_true] at z ⊢; exact ⟨z.1, z.2.1⟩⟩
    · cases h4
  exc := fun {m p p' e st Z o x u} E W h => by
    have h : ((evalP G a .bo p).bind fun xs e1 => tone xs fun v => (evalP G b .bo e1).bind fun ys e2 => tone ys fun w =>
      (match asBool (pcmp op v w) with
        | some d => if d = true then (evalP G c .bo e2).bind fun zs e3 => tone zs fun u => PR.opt ((pcmp op' w u).map tmp) e3
          else PR.ok (tmp (.bool false)) e2
        | none => .stuck)) = .exc x u p' := h
    obtain ⟨xs, p1, q1, h1⟩ := PR.bind_exc h
    obtain ⟨v, hx, h2⟩ := tone_exc h1
    obtain ⟨ys, p2, q2, h3⟩ := PR.bind_exc h2
    obtain ⟨w, hy, h4⟩ := tone_exc h3
    split at h4
    · split at h4
      · obtain ⟨zs, p3, q3, h5⟩ := PR.bind_exc h4
        obtain ⟨u, hz, h6⟩ := tone_exc h5
        exact (opt_exc h6).elim
      · cases h4
    · cases h4
theorem sp_ix {a i : CE} (ha : SP F G a) (hi : SP F G i) (la : isL a = false) (li : isL i = false) : SP F G (.ix a i) where
  ok := fun {m p p' e st Z o bs} E W h => by
    have h : ((evalP G a .bo p).bind fun xs e1 => one xs fun x => (evalP G i .sh e1).bind fun ys e2 => tone ys fun y => (match x.pl with
      | none => PR.opt ((getS (.ix y) x.v).map tmp) e2
      | some (r, p) => if p.isEmpty || calm G.io i then (match getE e2 r p with
        | some v => if v.ownT = true then (match getS (.ix y) v with
          | some c => touch m r (p ++ [.ix y]) c e2
          | none => .stuck) else .stuck
        | none => .stuck) else .stuck)) = .ok bs p' := h
    obtain ⟨xs, p1, q1, h1⟩ := PR.bind_ok h
    obtain ⟨x, hx, h2⟩ := one_ok h1
    subst hx
    obtain ⟨ys, p2, q2, h3⟩ := PR.bind_ok h2
    obtain ⟨y, hy, h4⟩ := tone_ok h3
    subst hy
    obtain ⟨xv, xpl⟩ := x
    have ok : okPl ⟨xv, xpl⟩ (calm G.io i) = true := by
      cases xpl with
      | none => rfl
      | some rp =>
        obtain ⟨r, pa⟩ := rp
        dsimp only at h4
        split at h4
        · assumption
        · cases h4
    obtain ⟨r1, s1, r2, s2, Z2, a2, b2, f1, f2, B2, E2, W2, G2⟩ := ha.two hi la li E W q1 q2 ok
    obtain ⟨c1, c2, B3, B4, hc12⟩ := B2.pair
    have R2 := B4.tmp1
    have run : evalE F (.ix a i) e st = ixop r1 r2 s2 := by
      show ((evalE F a e st).bind fun x s1 => (evalE F i e s1).bind fun y s2 => ixop x y s2) = _
      rw [f1]
      show ((evalE F i e s1).bind fun y s2 => ixop r1 y s2) = _
      rw [f2]; rfl
    rw [run]
    cases xpl with
    | none =>
      obtain ⟨h5, hp⟩ := opt_ok h4
      subst hp
      obtain ⟨z, h6, hz⟩ := map_some h5
      subst hz
      obtain ⟨w, a', f3, R3, ha'⟩ := pq_ix B3.tmp1 R2 h6
      exact ⟨w, s2, [w], f3, rfl, out_val R3 (fun n => by have := ha' n; have := hc12 n; omega) E2 W2 G2⟩
    | some rp =>
      obtain ⟨r, pa⟩ := rp
      dsimp only at h4
      split at h4
      · split at h4
        · rename_i v hv
          split at h4
          · rename_i ho
            split at h4
            · rename_i cc hcc
              cases B3 with
              | @pl _ rv _ _ _ _ _ _ g1 g2 t =>
                obtain ⟨rv', w', a3, b3, g3, g4, R3, g5, _⟩ := E2.getE hv
                rw [g1] at g3; cases g3
                rw [g2] at g4; cases g4
                obtain ⟨w3, a4, b4, g6, R4, _⟩ := R3.step ho hcc
                have f3 := ix_stepV (v := r1) R2 g6
                refine ⟨w3, s2, [w3], f3, rfl, ?_⟩
                have T := touch_ok E2 (W2.mono fun n => by (try dsimp only); omega) g1 (valP_append g2 g6) (getE_append hv ho hcc) h4
                exact (out_then W2 G2 T).less fun z => by rw [Bool.and_true]; exact z
            · cases h4
          · cases h4
        · cases h4
      · cases h4
  exc := fun {m p p' e st Z o x u} E W h => by
    have h : ((evalP G a .bo p).bind fun xs e1 => one xs fun x => (evalP G i .sh e1).bind fun ys e2 => tone ys fun y => (match x.pl with
      | none => PR.opt ((getS (.ix y) x.v).map tmp) e2
      | some (r, p) => if p.isEmpty || calm G.io i then (match getE e2 r p with
        | some v => if v.ownT = true then (match getS (.ix y) v with
          | some c => touch m r (p ++ [.ix y]) c e2
          | none => .stuck) else .stuck
        | none => .stuck) else .stuck)) = .exc x u p' := h
    obtain ⟨xs, p1, q1, h1⟩ := PR.bind_exc h
    obtain ⟨x, hx, h2⟩ := one_exc h1
    obtain ⟨ys, p2, q2, h3⟩ := PR.bind_exc h2
    obtain ⟨y, hy, h4⟩ := tone_exc h3
    split at h4
    · exact (opt_exc h4).elim
    · split at h4
      · split at h4
        · split at h4
          · split at h4
            · exact (touch_exc h4).elim
            · cases h4
          · cases h4
        · cases h4
      · cases h4
/-- a bound of a slice -/
theorem part_use2 {c : CE} (hc : isNil c = true ∨ (isL c = false ∧ SP F G c)) {p p1 : PEnv} {e : Env} {st : Store} {Z : Nat → Prop} {o : Cn} {l : Option Int} (E : ER st Z e p o) (W : Wf st Z o)
    (h : (if isNil c = true then PR.ok none p else (evalP G c .bo p).bind fun ls e => tone ls fun l => PR.opt ((ppart l).map some) e) = .ok l p1) :
    ∃ s1 Z1 b1, (if isNil c = true then Res.ok none st else (evalE F c e st).bind part) = .ok l s1 ∧ ER s1 Z1 e p1 b1 ∧ Wf s1 Z1 b1 ∧ Go st Z o (calm G.io c) s1 Z1 b1 := by
  split at h
  · rename_i hn
    cases h
    exact ⟨st, Z, o, by rw [if_pos hn], E, W, Go.refl fun n => Nat.le_refl _⟩
  · rename_i hn
    rcases hc with hc | ⟨lc, hc⟩
    · exact absurd hc hn
    obtain ⟨ls, p2, q1, h1⟩ := PR.bind_ok h
    obtain ⟨v, hx, h2⟩ := tone_ok h1
    subst hx
    obtain ⟨h3, hp⟩ := opt_ok h2
    subst hp
    obtain ⟨z, h4, hz⟩ := map_some h3
    subst hz
    obtain ⟨r1, s1, Z1, a1, b1, f1, B1, E1, W1, G1⟩ := hc.one lc E W q1
    have R := B1.tmp1
    cases R with
    | int k =>
      cases h4
      refine ⟨s1, Z1, b1, ?_, E1, W1.mono fun n => by (try dsimp only); omega, G1.weak fun n => by (try dsimp only); omega⟩
      rw [if_neg hn, f1]; rfl
    | _ => cases h4
theorem part_exc {c : CE} {p p1 : PEnv} {x : Str} {v : PV} (h : (if isNil c = true then PR.ok none p else (evalP G c .bo p).bind fun ls e => tone ls fun l => PR.opt ((ppart l).map some) e) = .exc x v p1) : False := by
  split at h
  · cases h
  · obtain ⟨ls, p2, q1, h1⟩ := PR.bind_exc h
    obtain ⟨v, hx, h2⟩ := tone_exc h1
    exact opt_exc h2
theorem sp_slice {a lo hi : CE} (ha : SP F G a) (la : isL a = false) (hl : isNil lo = true ∨ (isL lo = false ∧ SP F G lo)) (hh : isNil hi = true ∨ (isL hi = false ∧ SP F G hi)) : SP F G (.slice a lo hi) where
  ok := fun {m p p' e st Z o bs} E W h => by
    have h : ((evalP G a .ki p).bind fun xs e1 => one xs fun x =>
      (if isNil lo = true then PR.ok none e1 else (evalP G lo .bo e1).bind fun ls e => tone ls fun l => PR.opt ((ppart l).map some) e).bind fun l e2 =>
      (if isNil hi = true then PR.ok none e2 else (evalP G hi .bo e2).bind fun ls e => tone ls fun l => PR.opt ((ppart l).map some) e).bind fun h e3 =>
      if okPl x (calm G.io lo && calm G.io hi) = true then PR.opt (((cur x e3).bind fun v => kids v (pslice v l h)).map tmp) e3 else .stuck) = .ok bs p' := h
    obtain ⟨xs, p1, q1, h1⟩ := PR.bind_ok h
    obtain ⟨x, hx, h2⟩ := one_ok h1
    subst hx
    obtain ⟨l, p2, q2, h3⟩ := PR.bind_ok h2
    obtain ⟨u, p3, q3, h4⟩ := PR.bind_ok h3
    split at h4
    · rename_i ok
      obtain ⟨h5, hp⟩ := opt_ok h4
      subst hp
      obtain ⟨z, h6, hz⟩ := map_some h5
      subst hz
      obtain ⟨v, hv, h7⟩ := bind_some h6
      obtain ⟨k1, h8⟩ := kids_of h7
      obtain ⟨r1, s1, Z1, a1, b1, f1, B1, E1, W1, G1⟩ := ha.one la E W q1
      obtain ⟨s2, Z2, b2, f2, E2, W2, G2⟩ := part_use2 (F := F) hl E1 (W1.mono fun n => by (try dsimp only); omega) q2
      obtain ⟨s3, Z3, b3, f3, E3, W3, G3⟩ := part_use2 (F := F) hh E2 W2 q3
      have G23 := G2.trans G3
      have B3 := B1.keep (fun z hz => by rw [List.mem_singleton.mp hz]; exact ok) W1 G23
      have W13 := W1.frame G23 W3
      have G13 := (G1.trans (G23.add (x := a1)))
      obtain ⟨d, R, _⟩ := cur_ok B3 E3 hv
      obtain ⟨w, s', f4, N⟩ := pq_slice R k1 h8
      refine ⟨w, s', [w], ?_, rfl, (out_new E3 W13 G13 N).less fun z => z⟩
      show ((evalE F a e st).bind fun x s1 =>
        (if isNil lo = true then Res.ok none s1 else (evalE F lo e s1).bind part).bind fun l s2 =>
        (if isNil hi = true then Res.ok none s2 else (evalE F hi e s2).bind part).bind fun h s3 => sliceop x l h s3) = _
      rw [f1]
      show ((if isNil lo = true then Res.ok none s1 else (evalE F lo e s1).bind part).bind fun l s2 =>
        (if isNil hi = true then Res.ok none s2 else (evalE F hi e s2).bind part).bind fun h s3 => sliceop r1 l h s3) = _
      rw [f2]
      show ((if isNil hi = true then Res.ok none s2 else (evalE F hi e s2).bind part).bind fun h s3 => sliceop r1 l h s3) = _
      rw [f3]
      exact f4
    · cases h4
  exc := fun {m p p' e st Z o x u} E W h => by
    have h : ((evalP G a .ki p).bind fun xs e1 => one xs fun x =>
      (if isNil lo = true then PR.ok none e1 else (evalP G lo .bo e1).bind fun ls e => tone ls fun l => PR.opt ((ppart l).map some) e).bind fun l e2 =>
      (if isNil hi = true then PR.ok none e2 else (evalP G hi .bo e2).bind fun ls e => tone ls fun l => PR.opt ((ppart l).map some) e).bind fun h e3 =>
      if okPl x (calm G.io lo && calm G.io hi) = true then PR.opt (((cur x e3).bind fun v => kids v (pslice v l h)).map tmp) e3 else .stuck) = .exc x u p' := h
    obtain ⟨xs, p1, q1, h1⟩ := PR.bind_exc h
    obtain ⟨x, hx, h2⟩ := one_exc h1
    obtain ⟨l, p2, q2, h3⟩ := PR.bind_exc h2
    obtain ⟨u, p3, q3, h4⟩ := PR.bind_exc h3
    split at h4
    · exact (opt_exc h4).elim
    · cases h4
theorem sp_rev {a : CE} (ha : SP F G a) (la : isL a = false) : SP F G (.rev a) where
  ok := fun {m p p' e st Z o bs} E W h => by
    have h : ((evalP G a .ki p).bind fun xs e1 => one xs fun x => PR.opt (((cur x e1).bind fun v => kids v (prev v)).map tmp) e1) = .ok bs p' := h
    obtain ⟨xs, p1, q1, h1⟩ := PR.bind_ok h
    obtain ⟨x, hx, h2⟩ := one_ok h1
    subst hx
    obtain ⟨h3, hp⟩ := opt_ok h2
    subst hp
    obtain ⟨z, h4, hz⟩ := map_some h3
    subst hz
    obtain ⟨v, hv, h5⟩ := bind_some h4
    obtain ⟨k1, h6⟩ := kids_of h5
    obtain ⟨r1, s1, Z1, a1, b1, f1, B1, E1, W1, G1⟩ := ha.one la E W q1
    obtain ⟨d, R, _⟩ := cur_ok B1 E1 hv
    obtain ⟨w, s', f4, N⟩ := pq_rev R k1 h6
    refine ⟨w, s', [w], ?_, rfl, out_new E1 W1 G1 N⟩
    show ((evalE F a e st).bind fun x s1 => revop x s1) = _
    rw [f1]; exact f4
  exc := fun {m p p' e st Z o x u} E W h => by
    have h : ((evalP G a .ki p).bind fun xs e1 => one xs fun x => PR.opt (((cur x e1).bind fun v => kids v (prev v)).map tmp) e1) = .exc x u p' := h
    obtain ⟨xs, p1, q1, h1⟩ := PR.bind_exc h
    obtain ⟨x, hx, h2⟩ := one_exc h1
    exact (opt_exc h2).elim
theorem sp_bi {b : Bi} {args : CE} (ha : SP F G args) (la : isArgs args = true) : SP F G (.bi b args) where
  ok := fun {m p p' e st Z o bs} E W h => by
    have h : ((evalP G args (if biMd b = true then .ki else .bo) p).bind fun xs e1 => PR.opt (((curs xs e1).bind fun vs => if biMd b = true ∧ (vs.all fun v => v.kidsNoO) = false then none else pbi b vs).map tmp) e1) = .ok bs p' := h
    obtain ⟨xs, p1, q1, h1⟩ := PR.bind_ok h
    obtain ⟨h2, hp⟩ := opt_ok h1
    subst hp
    obtain ⟨z, h3, hz⟩ := map_some h2
    subst hz
    obtain ⟨vs, hv, h4⟩ := bind_some h3
    obtain ⟨ws, s1, Z1, a1, b1, f1, B1, E1, W1, G1⟩ := ha.all (args_L la) E W q1
    obtain ⟨as, R⟩ := curs_ok B1 E1 hv
    split at h4
    · cases h4
    · rename_i hk
      obtain ⟨w, s', f2, N⟩ := pq_bi R (fun hb => by
        cases q : (vs.all fun v => v.kidsNoO) with
        | true => rfl
        | false => exact absurd ⟨hb, q⟩ hk) h4
      refine ⟨w, s', [w], ?_, rfl, out_new E1 W1 G1 N⟩
      show ((evalE F args e st).bind fun w s1 => match w with | .tup vs => bifn b vs s1 | _ => .stuck) = _
      rw [f1]; exact f2
  exc := fun {m p p' e st Z o x u} E W h => by
    have h : ((evalP G args (if biMd b = true then .ki else .bo) p).bind fun xs e1 => PR.opt (((curs xs e1).bind fun vs => if biMd b = true ∧ (vs.all fun v => v.kidsNoO) = false then none else pbi b vs).map tmp) e1) = .exc x u p' := h
    obtain ⟨xs, p1, q1, h1⟩ := PR.bind_exc h
    exact (opt_exc h1).elim
theorem sp_isi {t : Ty} {a : CE} (ha : SP F G a) (la : isL a = false) : SP F G (.isi t a) where
  ok := fun {m p p' e st Z o bs} E W h => by
    have h : ((evalP G a .bo p).bind fun xs e1 => one xs fun x => PR.opt (((cur x e1).bind fun v => pisInst t v).map fun b => tmp (.bool b)) e1) = .ok bs p' := h
    obtain ⟨xs, p1, q1, h1⟩ := PR.bind_ok h
    obtain ⟨x, hx, h2⟩ := one_ok h1
    subst hx
    obtain ⟨h3, hp⟩ := opt_ok h2
    subst hp
    obtain ⟨z, h4, hz⟩ := map_some h3
    subst hz
    obtain ⟨v, hv, h5⟩ := bind_some h4
    obtain ⟨r1, s1, Z1, a1, b1, f1, B1, E1, W1, G1⟩ := ha.one la E W q1
    obtain ⟨d, R, _⟩ := cur_ok B1 E1 hv
    refine ⟨.bool z, s1, [.bool z], ?_, rfl, out_new E1 W1 G1 (.here (.bool _ fun _ => rfl))⟩
    show ((evalE F a e st).bind fun x s1 => match isInst t s1 x with | some b => Res.ok (Val.bool b) s1 | none => .stuck) = _
    rw [f1]
    show (match isInst t s1 r1 with | some b => Res.ok (Val.bool b) s1 | none => .stuck) = _
    rw [pq_inst R h5]
  exc := fun {m p p' e st Z o x u} E W h => by
    have h : ((evalP G a .bo p).bind fun xs e1 => one xs fun x => PR.opt (((cur x e1).bind fun v => pisInst t v).map fun b => tmp (.bool b)) e1) = .exc x u p' := h
    obtain ⟨xs, p1, q1, h1⟩ := PR.bind_exc h
    obtain ⟨x, hx, h2⟩ := one_exc h1
    exact (opt_exc h2).elim
theorem Rep.ofObj {st : Store} {Z : Nat → Prop} {v : Val} {o : Bool} {cl : Str} {ns : List Str} {vs : List PV} {c : Cn} (h : Rep st Z v (.obj o cl ns vs) c) : ∃ (n : Nat) (fs : List (Str × Val)) (d : Cn), v = .ref n ∧ st[n]? = some (.inst cl fs) ∧ ns = fs.map (·.1) ∧ Reps st Z (fs.map (·.2)) vs d ∧ ∀ m, d m ≤ c m := by
  cases h with
  | objF h1 h2 r z => exact ⟨_, _, _, rfl, h1, rfl, r, fun m => Nat.le_refl _⟩
  | objO h1 r z => exact ⟨_, _, _, rfl, h1, rfl, r, fun m => by rw [z]; omega⟩
theorem sp_isx (hF : PF F G) {x : Str} {a : CE} (ha : SP F G a) (la : isL a = false) : SP F G (.isx x a) where
  ok := fun {m p p' e st Z o bs} E W h => by
    have h : (if G.fuel % 2 = 1 then ((evalP G a .bo p).bind fun xs e1 => one xs fun y => PR.opt (((cur y e1).bind fun v => pexc v x).map fun b => tmp (.bool b)) e1) else .stuck) = .ok bs p' := h
    split at h
    · rename_i hf
      obtain ⟨xs, p1, q1, h1⟩ := PR.bind_ok h
      obtain ⟨y, hx, h2⟩ := one_ok h1
      subst hx
      obtain ⟨h3, hp⟩ := opt_ok h2
      subst hp
      obtain ⟨z, h4, hz⟩ := map_some h3
      subst hz
      obtain ⟨v, hv, h5⟩ := bind_some h4
      obtain ⟨r1, s1, Z1, a1, b1, f1, B1, E1, W1, G1⟩ := ha.one la E W q1
      obtain ⟨d, R, _⟩ := cur_ok B1 E1 hv
      cases v with
      | obj ob cl ns vs =>
        cases h5
        obtain ⟨n, fs, d2, rfl, g1, _⟩ := R.ofObj
        refine ⟨.bool (excSub cl x), s1, [.bool (excSub cl x)], ?_, rfl, out_new E1 W1 G1 (.here (.bool _ fun _ => rfl))⟩
        show (if F.fuel % 2 = 1 then ((evalE F a e st).bind fun y s1 => match isExc x s1 y with | some b => Res.ok (Val.bool b) s1 | none => .stuck) else .stuck) = _
        rw [hF.fuel, if_pos hf, f1]
        show (match (match s1[n]? with | some (.inst c' _) => some (excSub c' x) | _ => none) with | some b => Res.ok (Val.bool b) s1 | none => .stuck) = _
        rw [g1]
      | _ => cases h5
    · cases h
  exc := fun {m p p' e st Z o y u} E W h => by
    have h : (if G.fuel % 2 = 1 then ((evalP G a .bo p).bind fun xs e1 => one xs fun y => PR.opt (((cur y e1).bind fun v => pexc v x).map fun b => tmp (.bool b)) e1) else .stuck) = .exc y u p' := h
    split at h
    · obtain ⟨xs, p1, q1, h1⟩ := PR.bind_exc h
      obtain ⟨x, hx, h2⟩ := one_exc h1
      exact (opt_exc h2).elim
    · cases h
def fldO (f : Str) (v : PV) : Option PV := match v with
      | .obj _ c ns vs => if c = "Over" then (fget ns vs f).bind fun w => if w.noO = true then some w else none else none
      | _ => none
theorem sp_fld (hF : PF F G) {f : Str} {a : CE} (ha : SP F G a) (la : isL a = false) : SP F G (.fld f a) where
  ok := fun {m p p' e st Z o bs} E W h => by
    have h : (if G.fuel % 2 = 1 ∧ f = "at" then ((evalP G a .bo p).bind fun xs e1 => one xs fun x => PR.opt (((cur x e1).bind (fldO f)).map tmp) e1) else .stuck) = .ok bs p' := h
    split at h
    · rename_i hf
      obtain ⟨xs, p1, q1, h1⟩ := PR.bind_ok h
      obtain ⟨y, hx, h2⟩ := one_ok h1
      subst hx
      obtain ⟨h3, hp⟩ := opt_ok h2
      subst hp
      obtain ⟨z, h4, hz⟩ := map_some h3
      subst hz
      obtain ⟨v, hv, h5⟩ := bind_some h4
      obtain ⟨r1, s1, Z1, a1, b1, f1, B1, E1, W1, G1⟩ := ha.one la E W q1
      obtain ⟨d, R, _⟩ := cur_ok B1 E1 hv
      cases v with
      | obj ob cl ns vs =>
        have h5 : (if cl = "Over" then (fget ns vs f).bind fun w => if w.noO = true then some w else none else none) = some z := h5
        split at h5
        · rename_i hcl
          obtain ⟨w, h6, h7⟩ := bind_some h5
          split at h7
          · rename_i no
            cases h7
            obtain ⟨n, fs, d2, rfl, g1, rfl, R2, _⟩ := R.ofObj
            obtain ⟨i, u, g2, g3, g4, _⟩ := fget_at R2 h6
            obtain ⟨u2, a3, g5, R3, _⟩ := R2.get g2
            rw [g3] at g5; cases g5
            refine ⟨u, s1, [u], ?_, rfl, out_new E1 W1 G1 (.here (R3.z no))⟩
            show (if F.fuel % 2 = 1 then ((evalE F a e st).bind fun y s1 => match fldAt f s1 y with | some v => Res.ok v s1 | none => .stuck) else .stuck) = _
            rw [hF.fuel, if_pos hf.1, f1]
            show (match (match s1[n]? with | some (.inst c fs) => if c = "Over" ∧ f = "at" then fs.lookup f else none | _ => none) with | some v => Res.ok v s1 | none => .stuck) = _
            rw [g1]
            show (match (if cl = "Over" ∧ f = "at" then fs.lookup f else none) with | some v => Res.ok v s1 | none => .stuck) = _
            rw [if_pos ⟨hcl, hf.2⟩, g4]
          · cases h7
        · cases h5
      | _ => cases h5
    · cases h
  exc := fun {m p p' e st Z o y u} E W h => by
    have h : (if G.fuel % 2 = 1 ∧ f = "at" then ((evalP G a .bo p).bind fun xs e1 => one xs fun x => PR.opt (((cur x e1).bind (fldO f)).map tmp) e1) else .stuck) = .exc y u p' := h
    split at h
    · obtain ⟨xs, p1, q1, h1⟩ := PR.bind_exc h
      obtain ⟨x, hx, h2⟩ := one_exc h1
      exact (opt_exc h2).elim
    · cases h
end
end Ev

set_option Elab.async false
set_option linter.all false
set_option maxRecDepth 100000
set_option maxHeartbeats 1000000
namespace Ev
open PySem
section
variable {F : Fns} {G : PFns}
theorem pmt_ok {m : Mt} {st : Store} {Z : Nat → Prop} {v : Val} {q : PV} {c : Cn} (r : Rep st Z v q c) (h : pmtOk m (some q) = true) : mtOk m v st = true := by
  cases q with
  | lst o ps =>
    have h : m ≠ .get := of_decide_eq_true h
    obtain ⟨n, xs, a, rfl, h1, _⟩ := r.list
    cases m <;> first | exact absurd rfl h | (show (listAt st n).isSome = true; rw [listAt_of h1]; rfl)
  | dict o ks ps =>
    have h : m = .get := of_decide_eq_true h
    subst h
    cases r with
    | @dictF n kvs ps c h1 h2 t z => show (match st[n]? with | some (.dict _) => true | _ => false) = true; rw [h1.1]
    | @dictO n kvs ps c d h1 t z => show (match st[n]? with | some (.dict _) => true | _ => false) = true; rw [h1.1]
  | _ => cases h
/-- a cell of one's own is written -/
theorem Go.write {st : Store} {Z : Nat → Prop} {c c' : Cn} {n : Nat} {cl : Cell} (hn : 1 ≤ c n) (he : ∀ m, c' m ≤ c m) : Go st Z c false (st.set n cl) Z c' := by
  refine ⟨by simp, fun m hm q => ?_, fun _ z => z, fun m hm z => .inl z, fun m hm q => Nat.le_trans q (he m)⟩
  rcases q with q | q
  · cases q
  · exact List.getElem?_set_ne (fun z => by subst z; omega)
theorem Wf.write {st : Store} {Z : Nat → Prop} {c c' : Cn} {n : Nat} {cl : Cell} (w : Wf st Z c) (he : ∀ m, c' m ≤ c m) : Wf (st.set n cl) Z c' :=
  ⟨fun m => Nat.le_trans (he m) (w.one m), fun m q => w.nz m (Nat.le_trans q (he m)), fun m q => by simp; exact w.lt m (Nat.le_trans q (he m)), fun m z => by simp; exact w.zl m z⟩
/-- a method that changes a list of one's own -/
theorem write_ok {m : Mt} {st : Store} {Z : Nat → Prop} {v : Val} {vs : List Val} {q q' ans : PV} {qs : List PV} {a x : Cn} (R : Rep st Z v q a) (T : Reps st Z vs qs x) (W : Wf st Z fun n => x n + a n) (h : pwrite m q qs = some (ans, q')) :
    ∃ (n : Nat) (cl : Cell) (w : Val) (a' x' : Cn), metop m v vs st = .ok w (st.set n cl) ∧ 1 ≤ a n ∧ Rep (st.set n cl) Z w ans x' ∧ Rep (st.set n cl) Z v q' a' ∧ ∀ k, x' k + a' k ≤ x k + a k := by
  have fr : ∀ {n : Nat} {cl : Cell}, 1 ≤ a n → (∀ k, Z k → (st.set n cl)[k]? = st[k]?) := fun {n cl} hn k z => List.getElem?_set_ne fun e => by subst e; exact W.nz _ (by (try dsimp only); omega) z
  cases m with
  | append =>
    cases R with
    | @lstO n xs ps c d h1 r hc =>
      cases T with
      | nil _ => cases h
      | @cons y py ys pys a1 b1 c1 r1 t e1 =>
        cases t with
        | cons _ _ _ => cases h
        | nil z1 =>
          obtain ⟨hl, e2⟩ := pneed_of h
          cases e2
          have hn : 1 ≤ a n := by rw [hc, if_pos rfl]; omega
          have hnn : n < st.length := (List.getElem?_eq_some_iff.mp h1).1
          have hd0 : d n = 0 := by have := W.one n; have := hc n; rw [if_pos rfl] at this; (try dsimp only at *); omega
          have hx0 : a1 n = 0 := by have := W.one n; have := e1 n; (try dsimp only at *); omega
          have kp : ∀ k, k ≠ n → (st.set n (.lst (xs ++ [y])))[k]? = st[k]? := fun k hk => List.getElem?_set_ne (Ne.symm hk)
          refine ⟨n, .lst (xs ++ [y]), .none, fun k => (if k = n then 1 else 0) + (d k + a1 k), z0, ?_, hn, .none fun _ => rfl, .lstO (List.getElem?_set_self hnn) ((r.frame (fr hn) (fun _ z => z) fun k q => kp k (fun e => by subst e; omega)).append (Reps.one (r1.frame (fr hn) (fun _ z => z) fun k q => kp k (fun e => by subst e; omega)))) fun k => rfl, fun k => ?_⟩
          · show (match st[n]? with | some (.lst xs) => need (xs.length < sizeLine) (Res.ok Val.none (st.set n (.lst (xs ++ [y])))) | _ => .stuck) = _
            rw [h1]
            exact if_pos (by rw [r.length]; exact hl)
          · have := hc k; have := e1 k; have := z1 k; simp; omega
    | _ => cases h
  | pop =>
    cases R with
    | @lstO n xs ps c d h1 r hc =>
      cases T with
      | cons _ _ _ => cases h
      | nil z1 =>
        have h : ps.getLast?.map (fun y => (y, PV.lst true ps.dropLast)) = some (ans, q') := h
        cases hl : ps.getLast? with
        | none => rw [hl] at h; cases h
        | some y =>
          rw [hl] at h
          cases h
          obtain ⟨ys, rfl⟩ := List.getLast?_eq_some_iff.mp hl
          have hlen := r.length
          obtain ⟨a1, b1, t1, t2, e1⟩ := r.take_drop ys.length
          rw [List.take_left] at t1
          rw [List.drop_left] at t2
          have hxs : ∃ w, xs.drop ys.length = [w] := by
            have : (xs.drop ys.length).length = 1 := by rw [List.length_drop, hlen]; simp
            match hq : xs.drop ys.length, this with
            | [w], _ => exact ⟨w, rfl⟩
          obtain ⟨w, hw⟩ := hxs
          rw [hw] at t2
          have hxx : xs = xs.take ys.length ++ [w] := by rw [← hw, List.take_append_drop]
          have hg : xs.getLast? = some w := by rw [hxx]; exact List.getLast?_concat
          have hdl : xs.dropLast = xs.take ys.length := by
            have : (xs.take ys.length ++ [w]).dropLast = xs.take ys.length := List.dropLast_concat
            rwa [← hxx] at this
          cases t2 with
          | @cons _ _ _ _ a2 b2 c2 r2 t3 e2 =>
            cases t3 with
            | nil z2 =>
              have hn : 1 ≤ a n := by rw [hc, if_pos rfl]; omega
              have hnn : n < st.length := (List.getElem?_eq_some_iff.mp h1).1
              have hd0 : d n = 0 := by have := W.one n; have := hc n; rw [if_pos rfl] at this; (try dsimp only at *); omega
              have ha1 : a1 n = 0 := by have := e1 n; omega
              have ha2 : a2 n = 0 := by have := e1 n; have := e2 n; omega
              have kp : ∀ k, k ≠ n → (st.set n (.lst (xs.take ys.length)))[k]? = st[k]? := fun k hk => List.getElem?_set_ne (Ne.symm hk)
              refine ⟨n, .lst (xs.take ys.length), w, fun k => (if k = n then 1 else 0) + a1 k, a2, ?_, hn, r2.frame (fr hn) (fun _ z => z) fun k q => kp k (fun e => by subst e; omega), ?_, fun k => ?_⟩
              · show (match st[n]? with | some (.lst xs) => (match xs.getLast? with | some y => Res.ok y (st.set n (.lst xs.dropLast)) | none => .stuck) | _ => .stuck) = _
                rw [h1]
                show (match xs.getLast? with | some y => Res.ok y (st.set n (.lst xs.dropLast)) | none => .stuck) = _
                rw [hg, hdl]
              · rw [List.dropLast_concat]
                exact .lstO (List.getElem?_set_self hnn) (t1.frame (fr hn) (fun _ z => z) fun k q => kp k (fun e => by subst e; omega)) fun k => rfl
              · have := hc k; have := e1 k; have := e2 k; have := z2 k; (try dsimp only); omega
    | _ => cases h
  | _ => cases R <;> cases h
noncomputable def methK (F : Fns) (m : Mt) (args : CE) (e : Env) (x : Val) (s1 : Store) : Res Val := need (mtOk m x s1 = true) ((evalE F args e s1).bind fun w s2 => match w with | .tup vs => metop m x vs s2 | _ => .stuck)
theorem sp_meth {m : Mt} {o args : CE} (ho : SP F G o) (ha : SP F G args) (lo : isL o = false) (la : isArgs args = true) : SP F G (.meth m o args) where
  ok := fun {md p p' e st Z oo bs} E W h => by
    have h : ((evalP G o .bo p).bind fun xs e1 => one xs fun x => if pmtOk m (cur x e1) = false then .stuck else (evalP G args .sh e1).bind fun ys e2 => (match tvals ys with
      | some ws => if mtW m = true then (match x.pl with
          | none => .stuck
          | some (r, p) => if p.isEmpty || calm G.io args then (match getE e2 r p with
            | some c => (match pwrite m c ws with
              | some (a, c') => (match putE e2 r p c' with | some e3 => PR.ok (tmp a) e3 | none => .stuck)
              | none => .stuck)
            | none => .stuck) else .stuck)
        else if okPl x (calm G.io args) = true then PR.opt (((cur x e2).bind fun v => if m = .get then kids v (pread m v ws) else pread m v ws).map tmp) e2 else .stuck
      | none => .stuck)) = .ok bs p' := h
    obtain ⟨xs, p1, q1, h1⟩ := PR.bind_ok h
    obtain ⟨x, hx, h2⟩ := one_ok h1
    subst hx
    split at h2
    · cases h2
    rename_i hmt
    obtain ⟨ys, p2, q2, h3⟩ := PR.bind_ok h2
    split at h3
    case h_2 => cases h3
    rename_i ws hws
    obtain ⟨r1, s1, Z1, a1, b1, f1, B1, E1, W1, G1⟩ := ho.one lo E W q1
    have hm1 : mtOk m r1 s1 = true := by
      cases hcur : cur x p1 with
      | none => rw [hcur] at hmt; exact absurd rfl hmt
      | some q =>
        rw [hcur] at hmt
        obtain ⟨d, R, _⟩ := cur_ok B1 E1 hcur
        exact pmt_ok R (by simpa using hmt)
    obtain ⟨vs, s2, Z2, a2, b2, f2, B2, E2, W2, G2⟩ := ha.all (args_L la) E1 (W1.mono fun n => by (try dsimp only); omega) q2
    have T := tvals_ok B2 hws
    have run : evalE F (.meth m o args) e st = metop m r1 vs s2 := by
      show (evalE F o e st).bind (methK F m args e) = _
      rw [f1]
      show need (mtOk m r1 s1 = true) ((evalE F args e s1).bind fun w s2 => match w with | .tup vs => metop m r1 vs s2 | _ => .stuck) = _
      rw [need_pos hm1, f2]; rfl
    rw [run]
    split at h3
    · rename_i hw
      obtain ⟨xv, xpl⟩ := x
      cases xpl with
      | none => cases h3
      | some rp =>
        obtain ⟨r, pa⟩ := rp
        dsimp only at h3
        split at h3
        case isFalse => cases h3
        rename_i hcalm
        split at h3
        case h_2 => cases h3
        rename_i c hc
        split at h3
        case h_2 => cases h3
        rename_i ans c' hpw
        have Bk := B1.keep (k := calm G.io args) (fun z hz => by rw [List.mem_singleton.mp hz]; exact hcalm) W1 G2
        cases Bk with
        | @pl _ rv _ _ _ _ _ _ g1 g2 t =>
          obtain ⟨rv', w', a3, b3, g3, g4, R3, g5, wand⟩ := E2.getE hc
          rw [g1] at g3; cases g3
          rw [g2] at g4; cases g4
          have Wt : Wf s2 Z2 fun n => a2 n + a3 n := W2.mono fun n => by have := g5 n; (try dsimp only); omega
          obtain ⟨n, cl, w, a', x', f3, hn, RA, RC, hcnt⟩ := write_ok R3 T Wt hpw
          have hb3 : b3 n = 0 := by have := W2.one n; have := g5 n; (try dsimp only at *); omega
          obtain ⟨p3, g6, E3⟩ := wand (s2.set n cl) Z2 c' a' (fun k z => List.getElem?_set_ne fun ee => by subst ee; exact W2.nz _ (by have := g5 n; (try dsimp only); omega) z) (fun k q => List.getElem?_set_ne fun ee => by subst ee; omega) (fun _ z => z) RC
          rw [g6] at h3
          cases h3
          refine ⟨w, s2.set n cl, [w], f3, rfl, ?_⟩
          have hle : ∀ k, x' k + (a' k + b3 k) ≤ a2 k + b2 k := fun k => by have := hcnt k; have := g5 k; omega
          have Gw : Go s2 Z2 (fun k => a2 k + b2 k) false (s2.set n cl) Z2 fun k => x' k + (a' k + b3 k) := Go.write (by have := g5 n; (try dsimp only); omega) hle
          have G12 := (G1.trans (G2.add (x := a1))).weak (d := fun k => a2 k + b2 k) fun k => by (try dsimp only); omega
          have G3 := G12.trans Gw
          have cf : calm G.io (.meth m o args) = false := by
            show (calm G.io o && (calm G.io args && !mtW m)) = false
            rw [hw]; simp
          refine ⟨Z2, x', fun k => a' k + b3 k, BOk.one RA, E3, W2.write hle, ?_⟩
          rw [cf]
          have e0 : (calm G.io o && calm G.io args && false) = false := by simp
          rw [e0] at G3
          exact G3
    · rename_i hw
      split at h3
      case isFalse => cases h3
      rename_i ok
      obtain ⟨h4, hp⟩ := opt_ok h3
      subst hp
      obtain ⟨z, h5, hz⟩ := map_some h4
      subst hz
      obtain ⟨v, hv, h6⟩ := bind_some h5
      have Bk := B1.keep (k := calm G.io args) (fun z hz => by rw [List.mem_singleton.mp hz]; exact ok) W1 G2
      obtain ⟨d, R, _⟩ := cur_ok Bk E2 hv
      have h7 : (m = .get → v.kidsNoO = true) ∧ pread m v ws = some z := by
        split at h6
        · obtain ⟨k1, k2⟩ := kids_of h6; exact ⟨fun _ => k1, k2⟩
        · rename_i hne; exact ⟨fun hh => absurd hh hne, h6⟩
      have G12 := (G1.trans (G2.add (x := a1))).weak (d := fun k => a2 k + b2 k) fun k => by (try dsimp only); omega
      have le : ∀ {sx vsx bsx px}, OutOk st Z oo e (calm G.io o && calm G.io args) sx vsx bsx px → OutOk st Z oo e (calm G.io (.meth m o args)) sx vsx bsx px := fun hh => hh.less fun zz => by
        have zz : (calm G.io o && (calm G.io args && !mtW m)) = true := zz
        simp only [Bool.and_eq_true] at zz ⊢
        exact ⟨zz.1, zz.2.1⟩
      rcases (pq_read R T h7.1 h7.2).2 with ⟨w, f3, RR⟩ | ⟨w, a', f3, RR, ha'⟩
      · exact ⟨w, s2, [w], f3, rfl, le (out_new E2 W2 G12 (.here RR))⟩
      · exact ⟨w, s2, [w], f3, rfl, le (out_val RR ha' E2 W2 G12)⟩
  exc := fun {md p p' e st Z oo x u} E W h => by
    have h : ((evalP G o .bo p).bind fun xs e1 => one xs fun x => if pmtOk m (cur x e1) = false then .stuck else (evalP G args .sh e1).bind fun ys e2 => (match tvals ys with
      | some ws => if mtW m = true then (match x.pl with
          | none => .stuck
          | some (r, p) => if p.isEmpty || calm G.io args then (match getE e2 r p with
            | some c => (match pwrite m c ws with
              | some (a, c') => (match putE e2 r p c' with | some e3 => PR.ok (tmp a) e3 | none => .stuck)
              | none => .stuck)
            | none => .stuck) else .stuck)
        else if okPl x (calm G.io args) = true then PR.opt (((cur x e2).bind fun v => if m = .get then kids v (pread m v ws) else pread m v ws).map tmp) e2 else .stuck
      | none => .stuck)) = .exc x u p' := h
    obtain ⟨xs, p1, q1, h1⟩ := PR.bind_exc h
    obtain ⟨x, hx, h2⟩ := one_exc h1
    split at h2
    · cases h2
    obtain ⟨ys, p2, q2, h3⟩ := PR.bind_exc h2
    split at h3
    · split at h3
      · split at h3
        · cases h3
        · split at h3
          · split at h3
            · split at h3
              · split at h3 <;> cases h3
              · cases h3
            · cases h3
          · cases h3
      · split at h3
        · exact (opt_exc h3).elim
        · cases h3
    · cases h3
end
end Ev

set_option Elab.async false
set_option linter.all false
set_option maxRecDepth 100000
set_option maxHeartbeats 1000000
namespace Ev
open PySem
section
variable {st : Store} {Z : Nat → Prop}
theorem any_nk (k : Sum Int Str) : ∀ kvs : List (Sum Int Str × Val), (kvs.any fun kv => decide (kv.1 = k)) = (kvs.map fun kv => nk kv.1).any fun x => decide (x = nk k)
  | [] => rfl
  | kv :: kvs => by
    rw [List.any_cons, List.map_cons, List.any_cons, any_nk k kvs]
    congr 1
    exact decide_eq_decide.mpr nk_inj.symm
/-- an entry is put -/
theorem put_rel {k : Sum Int Str} {v : Val} {q : PV} {a : Cn} (R : Rep st Z v q a) : ∀ {kvs : List (Sum Int Str × Val)} {ps : List PV} {c : Cn}, (kvs.map (·.1)).Nodup → Reps st Z (kvs.map (·.2)) ps c →
    ((putKV kvs k v).map fun kv => nk kv.1) = dputK (kvs.map fun kv => nk kv.1) (nk k) ∧ ((putKV kvs k v).map (·.1)).Nodup ∧ ∃ d, Reps st Z ((putKV kvs k v).map (·.2)) (dputV (kvs.map fun kv => nk kv.1) ps (nk k) q) d ∧ ∀ n, d n ≤ a n + c n
  | [], ps, c, nd, t => by
    cases t with
    | nil z =>
      refine ⟨rfl, ?_, a, ?_, fun n => by omega⟩
      · simp [putKV]
      · exact Reps.one R
  | kv :: kvs, ps, c, nd, t => by
    cases t with
    | @cons x p xs ps a1 b1 c1 r t e =>
      have nd1 : kv.1 ∉ kvs.map (·.1) := (List.nodup_cons.mp nd).1
      have nd2 : (kvs.map (·.1)).Nodup := (List.nodup_cons.mp nd).2
      by_cases h : kv.1 = k
      · have e1 : putKV (kv :: kvs) k v = (kv.1, v) :: kvs := by
          unfold putKV
          rw [if_pos (by simp [h])]
          rw [List.map_cons, if_pos h]
          congr 1
          conv => rhs; rw [← List.map_id kvs]
          refine List.map_congr_left fun kv' hm => ?_
          rw [if_neg]; rfl
          intro z
          apply nd1
          rw [h, ← z]
          exact List.mem_map_of_mem hm
        rw [e1]
        have hk : nk kv.1 = nk k := by rw [h]
        refine ⟨?_, ?_, fun n => a n + b1 n, ?_, fun n => by have := e n; (try dsimp only); omega⟩
        · show nk kv.1 :: _ = (if nk kv.1 = nk k then nk kv.1 :: kvs.map _ else _)
          rw [if_pos hk]
        · exact nd
        · show Reps st Z (v :: kvs.map (·.2)) (if nk kv.1 = nk k then q :: ps else _) _
          rw [if_pos hk]
          exact .cons R t fun n => rfl
      · have hk : ¬ nk kv.1 = nk k := fun z => h (nk_inj.mp z)
        have e1 : putKV (kv :: kvs) k v = kv :: putKV kvs k v := by
          unfold putKV
          rw [List.any_cons]
          have : decide (kv.1 = k) = false := by simpa using h
          rw [this, Bool.false_or]
          split
          · rw [List.map_cons, if_neg h]
          · rfl
        obtain ⟨i1, i2, d, i3, i4⟩ := put_rel (k := k) R nd2 t
        rw [e1]
        refine ⟨?_, ?_, fun n => a1 n + d n, ?_, fun n => by have := e n; have := i4 n; (try dsimp only); omega⟩
        · show nk kv.1 :: _ = (if nk kv.1 = nk k then _ else nk kv.1 :: dputK (kvs.map fun kv => nk kv.1) (nk k))
          rw [if_neg hk, i1]
        · refine List.nodup_cons.mpr ⟨fun hm => ?_, i2⟩
          obtain ⟨kv', hm1, hm2⟩ := List.mem_map.mp hm
          have hm2 : kv'.1 = kv.1 := hm2
          unfold putKV at hm1
          split at hm1
          · obtain ⟨kv2, hm3, hm4⟩ := List.mem_map.mp hm1
            have : kv'.1 = kv2.1 := by rw [← hm4]; split <;> rfl
            exact nd1 (by rw [← hm2, this]; exact List.mem_map_of_mem hm3)
          · rcases List.mem_append.mp hm1 with hm3 | hm3
            · exact nd1 (by rw [← hm2]; exact List.mem_map_of_mem hm3)
            · rw [List.mem_singleton.mp hm3] at hm2; exact h hm2.symm
        · show Reps st Z (kv.2 :: _) (if nk kv.1 = nk k then _ else p :: dputV (kvs.map fun kv => nk kv.1) ps (nk k) q) _
          rw [if_neg hk]
          exact .cons r i3 fun n => rfl
theorem merge_rel : ∀ {pk : List (NestedKey × PV)} {more kvs : List (Sum Int Str × Val)} {ps : List PV} {c x : Cn}, (more.map fun kv => nk kv.1) = pk.map (·.1) → Reps st Z (more.map (·.2)) (pk.map (·.2)) x → (kvs.map (·.1)).Nodup → Reps st Z (kvs.map (·.2)) ps c →
    ((mergeKV kvs more).map fun kv => nk kv.1) = (pMerge pk (kvs.map fun kv => nk kv.1) ps).1 ∧ ((mergeKV kvs more).map (·.1)).Nodup ∧ ∃ d, Reps st Z ((mergeKV kvs more).map (·.2)) (pMerge pk (kvs.map fun kv => nk kv.1) ps).2 d ∧ ∀ n, d n ≤ x n + c n
  | [], [], kvs, ps, c, x, _, t, nd, r => ⟨rfl, nd, c, r, fun n => by omega⟩
  | [], _ :: _, kvs, ps, c, x, e, t, nd, r => by cases e
  | _ :: _, [], kvs, ps, c, x, e, t, nd, r => by cases e
  | (k, v) :: pk, kv :: more, kvs, ps, c, x, e, t, nd, r => by
    have e1 : nk kv.1 = k := (List.cons.inj e).1
    have e2 := (List.cons.inj e).2
    cases t with
    | @cons _ _ _ _ a1 b1 c1 r1 t e3 =>
      subst e1
      obtain ⟨i1, i2, d, i3, i4⟩ := put_rel (k := kv.1) r1 nd r
      obtain ⟨j1, j2, d2, j3, j4⟩ := merge_rel e2 t i2 i3
      refine ⟨?_, j2, d2, ?_, fun n => by have := e3 n; have := i4 n; have := j4 n; omega⟩
      · show ((mergeKV (putKV kvs kv.1 kv.2) more).map fun kv => nk kv.1) = (pMerge pk (dputK (kvs.map fun kv => nk kv.1) (nk kv.1)) (dputV (kvs.map fun kv => nk kv.1) ps (nk kv.1) v)).1
        rw [← i1]; exact j1
      · show Reps st Z ((mergeKV (putKV kvs kv.1 kv.2) more).map (·.2)) (pMerge pk (dputK (kvs.map fun kv => nk kv.1) (nk kv.1)) (dputV (kvs.map fun kv => nk kv.1) ps (nk kv.1) v)).2 d2
        rw [← i1]; exact j3
theorem keyT_of {v : Val} {q : PV} {k : NestedKey} {a : Cn} (R : Rep st Z v q a) (h : keyT q = some k) : ∃ k', keyOf v = some k' ∧ k = nk k' ∧ ∀ n, a n = 0 := by
  obtain ⟨k', e1, hy⟩ := keyT_nk h
  rcases hy with ⟨i, rfl, rfl⟩ | ⟨i, rfl, rfl⟩
  · cases R with
    | int _ z => exact ⟨_, rfl, e1, z⟩
  · cases R with
    | str _ z => exact ⟨_, rfl, e1, z⟩
theorem pairs_rel : ∀ {vs : List Val} {qs : List PV} {pk : List (NestedKey × PV)} {x : Cn}, Reps st Z vs qs x → pPairs qs = some pk → ∃ kv, toPairs vs = some kv ∧ (kv.map fun kv => nk kv.1) = pk.map (·.1) ∧ Reps st Z (kv.map (·.2)) (pk.map (·.2)) x
  | [], _, pk, x, .nil z, h => by cases h; exact ⟨[], rfl, rfl, .nil z⟩
  | _ :: vs, _, pk, x, .cons r t e, h => by
    cases t with
    | nil z => cases h
    | @cons v2 q2 vs qs a2 b2 c2 r2 t e2 =>
      obtain ⟨k, h1, h2⟩ := bind_some h
      obtain ⟨pk', h3, h4⟩ := map_some h2
      subst h4
      obtain ⟨k', g1, g2, g3⟩ := keyT_of r h1
      obtain ⟨kv, i1, i2, i3⟩ := pairs_rel t h3
      refine ⟨(k', v2) :: kv, ?_, ?_, .cons r2 i3 fun n => by have := e n; have := e2 n; have := g3 n; omega⟩
      · show (keyOf _).bind (fun x => (toPairs vs).map ((x, v2) :: ·)) = _
        rw [g1]
        show (toPairs vs).map ((k', v2) :: ·) = _
        rw [i1]; rfl
      · show nk k' :: _ = k :: _
        rw [← g2, i2]
end
section
variable {F : Fns} {G : PFns}
noncomputable def dictK (n : Nat) (w : Val) (s1 : Store) : Res Val := match w with
    | .tup vs => (match s1[n]?, toPairs vs with
      | some (.dict []), some kvs => need (kvs.length ≤ 15) (.ok (.ref n) (s1.set n (.dict (mergeKV [] kvs))))
      | _, _ => .stuck)
    | _ => .stuck
theorem sp_dict {ps : CE} (hp : SP F G ps) (lp : isKvs ps = true) : SP F G (.dict ps) where
  ok := fun {m p p' e st Z o bs} E W h => by
    have h : ((evalP G ps .sh p).bind fun ws e1 => (match (tvals ws).bind pPairs with
      | some kvs => if kvs.length ≤ 15 then PR.ok (tmp (.dict true (pMerge kvs [] []).1 (pMerge kvs [] []).2)) e1 else .stuck
      | none => .stuck)) = .ok bs p' := h
    obtain ⟨ws, p1, q1, h1⟩ := PR.bind_ok h
    split at h1
    case h_2 => cases h1
    rename_i pk hpk
    split at h1
    case isFalse => cases h1
    rename_i hlen
    cases h1
    obtain ⟨qs, hq, hpk⟩ := bind_some hpk
    have kp : ∀ n, n < st.length → (st ++ [Cell.dict []])[n]? = st[n]? := fun n hn => List.getElem?_append_left hn
    have E0 : ER (st ++ [Cell.dict []]) Z e p o := E.frame (fun n z => kp n (W.zl n z)) (fun _ z => z) fun n q => kp n (W.lt n q)
    have Wn : Wf (st ++ [Cell.dict []]) Z fun n => (if n = st.length then 1 else 0) + o n := W.alloc
    have Gn : Go st Z o true (st ++ [Cell.dict []]) Z fun n => (if n = st.length then 1 else 0) + o n := Go.alloc W
    obtain ⟨vs, s1, Z1, a1, b1, f1, B1, E1, W1, G1⟩ := hp.all (kvs_L lp) E0 (Wn.mono fun n => by (try dsimp only); omega) q1
    have D0 : Rep (st ++ [Cell.dict []]) Z (.ref st.length) (.dict true [] []) fun n => if n = st.length then 1 else 0 := .dictO (kvs := []) ⟨by simp, by simp⟩ (.nil (c := z0) fun _ => rfl) fun n => by simp
    have D1 := D0.keep Wn G1
    have W2 := Wn.frame G1 W1
    have hcell : s1[st.length]? = some (.dict []) := by
      have := G1.keep st.length (by simp) (.inr (by
        have := Wn.one st.length
        (try dsimp only at this)
        rw [if_pos rfl] at this
        omega))
      rw [this]; simp
    have T := tvals_ok B1 hq
    obtain ⟨kv, g1, g2, g3⟩ := pairs_rel T hpk
    obtain ⟨j1, j2, d, j3, j4⟩ := merge_rel (kvs := []) (ps := []) (c := z0) g2 g3 (by simp) (.nil fun _ => rfl)
    have hl2 : kv.length ≤ 15 := by
      have : kv.length = pk.length := by have := congrArg List.length g2; simpa using this
      omega
    have hn : st.length < s1.length := (List.getElem?_eq_some_iff.mp hcell).1
    have hd0 : d st.length = 0 ∧ b1 st.length = 0 := by
      have := W2.one st.length
      have := j4 st.length
      (try dsimp only at *)
      simp at *
      omega
    have hnz : ¬ Z1 st.length := W2.nz st.length (by (try dsimp only); rw [if_pos rfl]; omega)
    have kw : ∀ k, k ≠ st.length → (s1.set st.length (Cell.dict (mergeKV [] kv)))[k]? = s1[k]? := fun k hk => List.getElem?_set_ne (Ne.symm hk)
    refine ⟨.ref st.length, s1.set st.length (Cell.dict (mergeKV [] kv)), [.ref st.length], ?_, rfl, Z1, fun n => (if n = st.length then 1 else 0) + d n, b1, BOk.one ?_, ?_, ?_, ?_⟩
    · show (evalE F ps e (st ++ [Cell.dict []])).bind (dictK st.length) = _
      rw [f1]
      show (match s1[st.length]?, toPairs vs with
        | some (.dict []), some kvs => need (kvs.length ≤ 15) (Res.ok (Val.ref st.length) (s1.set st.length (.dict (mergeKV [] kvs))))
        | _, _ => .stuck) = _
      rw [hcell, g1]
      exact if_pos hl2
    · have : Rep (s1.set st.length (Cell.dict (mergeKV [] kv))) Z1 (.ref st.length) (.dict true ((mergeKV [] kv).map fun kv => nk kv.1) (pMerge pk [] []).2) fun n => (if n = st.length then 1 else 0) + d n :=
        .dictO ⟨List.getElem?_set_self hn, j2⟩ (Reps.frame (fun n z => kw n fun ee => by subst ee; exact hnz z) (fun _ z => z) j3 fun n q => kw n fun ee => by subst ee; omega) fun n => rfl
      rw [j1] at this
      exact this
    · exact E1.frame (fun n z => kw n fun ee => by subst ee; exact hnz z) (fun _ z => z) fun n q => kw n fun ee => by subst ee; omega
    · exact W2.write fun n => by have := j4 n; simp at *; omega
    · have Gw : Go s1 Z1 (fun n => (if n = st.length then 1 else 0) + (a1 n + b1 n)) false (s1.set st.length (Cell.dict (mergeKV [] kv))) Z1 fun n => ((if n = st.length then 1 else 0) + d n) + b1 n := Go.write (by (try dsimp only); rw [if_pos rfl]; omega) fun n => by have := j4 n; simp at *; omega
      have Ga := Gn.trans (G1.add (x := fun n => if n = st.length then 1 else 0))
      refine ⟨?_, fun n hnn q => ?_, fun n z => Gw.zz n (Ga.zz n z), fun n hnn z => ?_, fun n hnn q => ?_⟩
      · rw [List.length_set]; exact Ga.len
      · rw [kw n (by omega)]
        exact Ga.keep n hnn (q.imp (fun q => by have q : calm G.io ps = true := q; rw [q]; rfl) id)
      · exact Ga.zn n hnn z
      · exact Ga.on n hnn (Gw.on n (Nat.lt_of_lt_of_le hnn Ga.len) q)
  exc := fun {m p p' e st Z o x u} E W h => by
    have h : ((evalP G ps .sh p).bind fun ws e1 => (match (tvals ws).bind pPairs with
      | some kvs => if kvs.length ≤ 15 then PR.ok (tmp (.dict true (pMerge kvs [] []).1 (pMerge kvs [] []).2)) e1 else .stuck
      | none => .stuck)) = .exc x u p' := h
    obtain ⟨xs, p1, q1, h1⟩ := PR.bind_exc h
    split at h1
    · split at h1 <;> cases h1
    · cases h1
end
end Ev

set_option Elab.async false
set_option linter.all false
set_option maxRecDepth 100000
set_option maxHeartbeats 1000000
namespace Ev
open PySem
section
variable {F : Fns} {G : PFns}
/-! ### what is walked -/
theorem ints_rep {st : Store} {Z : Nat → Prop} : ∀ l : List Nat, Reps st Z (l.map fun (j : Nat) => Val.int (j : Int)) (l.map fun (j : Nat) => PV.int (j : Int)) z0
  | [] => .nil fun _ => rfl
  | x :: xs => .cons (a := z0) (.int _ fun _ => rfl) (ints_rep xs) fun _ => rfl
structure SrcOk (st : Store) (Z : Nat → Prop) (e : Env) (p : PEnv) (a b : Cn) (k : Src) (v : Val) (items : List PV) (Z' : Nat → Prop) (xs : List Val) : Prop where
  it : srcItems k v st = some xs
  rep : Reps st Z' xs items z0
  er : ER st Z' e p b
  wf : Wf st Z' b
  zz : ∀ n, Z n → Z' n
  zn : ∀ n, Z' n → Z n ∨ 1 ≤ a n
  stay : ∀ st2 : Store, (∀ n, Z' n → st2[n]? = st[n]?) → stays k v xs st2
theorem src_ok {st : Store} {Z : Nat → Prop} {e : Env} {p : PEnv} {a b : Cn} {k : Src} {vs : List Val} {bs : List BV} {v : Val} {items : List PV} (B : BOk st Z e vs bs a) (E : ER st Z e p b) (W : Wf st Z fun n => a n + b n) (hv : match k with | .range => v = .tup vs | .seq => vs = [v]) (h : srcP k bs = some items) : ∃ Z' xs, SrcOk st Z e p a b k v items Z' xs := by
  cases k with
  | range =>
    have hv : v = .tup vs := hv
    subst hv
    obtain ⟨qs, h1, h2⟩ := bind_some h
    have T := tvals_ok B h1
    cases T with
    | nil _ => cases h2
    | @cons x y xs ys a1 b1 c1 r t e1 =>
      cases t with
      | cons _ _ _ => exfalso; revert h2; cases y <;> simp [pItems]
      | nil _ =>
        cases r with
        | int n =>
          have h2 : (if n < 2 ^ 62 ∧ -(2 ^ 62) ≤ n then some ((List.range n.toNat).map fun (j : Nat) => PV.int (j : Int)) else none) = some items := h2
          split at h2
          · rename_i hn
            cases h2
            refine ⟨Z, _, ⟨?_, ints_rep _, E, W.mono fun n => by (try dsimp only); omega, fun _ z => z, fun _ z => .inl z, fun _ _ => trivial⟩⟩
            show (if n < 2 ^ 62 ∧ -(2 ^ 62) ≤ n then some ((List.range n.toNat).map fun (j : Nat) => Val.int (j : Int)) else none) = _
            rw [if_pos hn]
          · cases h2
        | _ => cases h2
  | seq =>
    have hv : vs = [v] := hv
    subst hv
    unfold srcP at h
    dsimp only at h
    split at h
    case h_2 => cases h
    rename_i q
    have R := B.tmp1
    have Rz := R.frz (Z' := fun n => Z n ∨ 1 ≤ a n) (fun _ z => .inl z) fun n q => .inr q
    have E' : ER st (fun n => Z n ∨ 1 ≤ a n) e p b := E.frame (fun _ _ => rfl) (fun _ z => .inl z) fun _ _ => rfl
    have W' : Wf st (fun n => Z n ∨ 1 ≤ a n) b := by
      refine ⟨fun n => ?_, fun n q z => ?_, fun n q => W.lt n (by (try dsimp only); omega), fun n z => ?_⟩
      · have := W.one n; (try dsimp only at *); omega
      · rcases z with z | z
        · exact W.nz n (by (try dsimp only); omega) z
        · have := W.one n; (try dsimp only at *); omega
      · rcases z with z | z
        · exact W.zl n z
        · exact W.lt n (by (try dsimp only); omega)
    generalize q.frz = q' at Rz h
    cases Rz with
    | @tup xs ps c t =>
      cases h
      exact ⟨_, xs, ⟨rfl, t, E', W', fun _ z => .inl z, fun _ z => z, fun _ _ => trivial⟩⟩
    | @lstF n xs ps c h1 h2 t z =>
      cases h
      refine ⟨_, xs, ⟨?_, t, E', W', fun _ z => .inl z, fun _ z => z, fun st2 hs => ?_⟩⟩
      · show listAt st n = _
        exact listAt_of h1
      · show listAt st2 n = _
        exact listAt_of (by rw [hs n h2]; exact h1)
    | @lstO n xs ps c d h1 t hc =>
      have := hc n
      rw [if_pos rfl] at this
      simp at this
      omega
    | _ => cases h
/-! ### loops: nothing below L is touched but by what one owns -/
structure GoB (L : Nat) (st : Store) (Z : Nat → Prop) (c : Cn) (k : Bool) (st' : Store) (Z' : Nat → Prop) (c' : Cn) : Prop where
  len : st.length ≤ st'.length
  keep : ∀ n, n < L → (k = true ∨ c n = 0) → st'[n]? = st[n]?
  zz : ∀ n, Z n → Z' n
  zn : ∀ n, n < L → Z' n → Z n ∨ 1 ≤ c n
  on : ∀ n, n < L → 1 ≤ c' n → 1 ≤ c n
theorem GoB.refl {L : Nat} {st : Store} {Z : Nat → Prop} {c d : Cn} {k : Bool} (h : ∀ n, d n ≤ c n) : GoB L st Z c k st Z d := ⟨Nat.le_refl _, fun _ _ _ => rfl, fun _ h => h, fun _ _ h => .inl h, fun n _ q => Nat.le_trans q (h n)⟩
theorem GoB.trans {L : Nat} {st st1 st2 : Store} {Z Z1 Z2 : Nat → Prop} {c c1 c2 : Cn} {k : Bool} (g : GoB L st Z c k st1 Z1 c1) (g' : GoB L st1 Z1 c1 k st2 Z2 c2) : GoB L st Z c k st2 Z2 c2 := by
  refine ⟨Nat.le_trans g.len g'.len, fun n hn q => ?_, fun n q => g'.zz n (g.zz n q), fun n hn q => ?_, fun n hn q => g.on n hn (g'.on n hn q)⟩
  · rw [← g.keep n hn q]
    refine g'.keep n hn (q.imp id fun q => ?_)
    cases e : c1 n with
    | zero => rfl
    | succ j => have := g.on n hn (by omega); omega
  · rcases g'.zn n hn q with q | q
    · exact g.zn n hn q
    · exact .inr (g.on n hn q)
theorem Go.b {L : Nat} {st st1 : Store} {Z Z1 : Nat → Prop} {c c1 : Cn} {k : Bool} (g : Go st Z c k st1 Z1 c1) (hL : L ≤ st.length) : GoB L st Z c k st1 Z1 c1 :=
  ⟨g.len, fun n hn q => g.keep n (Nat.lt_of_lt_of_le hn hL) q, g.zz, fun n hn q => g.zn n (Nat.lt_of_lt_of_le hn hL) q, fun n hn q => g.on n (Nat.lt_of_lt_of_le hn hL) q⟩
theorem GoB.less {L : Nat} {st st1 : Store} {Z Z1 : Nat → Prop} {c c1 : Cn} {k k' : Bool} (g : GoB L st Z c k st1 Z1 c1) (h : k' = true → k = true) : GoB L st Z c k' st1 Z1 c1 := ⟨g.len, fun n hn q => g.keep n hn (q.imp h id), g.zz, g.zn, g.on⟩
theorem GoB.weak {L : Nat} {st st1 : Store} {Z Z1 : Nat → Prop} {c c1 d : Cn} {k : Bool} (g : GoB L st Z c k st1 Z1 c1) (h : ∀ n, d n ≤ c1 n) : GoB L st Z c k st1 Z1 d := ⟨g.len, g.keep, g.zz, g.zn, fun n hn q => g.on n hn (Nat.le_trans q (h n))⟩
theorem ER.unset {st : Store} {Z : Nat → Prop} {e : Env} {p : PEnv} {c : Cn} {i : Nat} {x : Option Val} (h : ER st Z (e.set i x) p c) : ∃ d, ER st Z e (p.set i none) d ∧ ∀ n, d n ≤ c n := by
  by_cases hi : i < e.length
  · obtain ⟨d, h1, h2⟩ := h.forget i e[i]
    rw [List.set_set, List.set_getElem_self] at h1
    exact ⟨d, h1, h2⟩
  · rw [List.set_eq_of_length_le (by omega)] at h
    rw [List.set_eq_of_length_le (by rw [← h.length]; omega)]
    exact ⟨c, h, fun n => Nat.le_refl _⟩
/-- one turn of a comprehension -/
noncomputable def stepC (F : Fns) (i : Nat) (cond elt : CE) (env : Env) (x : Val) (s : Store) : Res (Option Val) :=
  if isNil cond = true then (evalE F elt (env.set i (some x)) s).bind fun y s3 => .ok (some y) s3
  else (evalE F cond (env.set i (some x)) s).bind fun t s2 => (testV t s2).bind fun b s3 => if b = true then (evalE F elt (env.set i (some x)) s3).bind fun y s4 => .ok (some y) s4 else .ok none s3
noncomputable def stepP (G : PFns) (i : Nat) (cond elt : CE) (x : PV) (e : PEnv) : PR (Option PV) :=
  if isNil cond = true then (evalP G elt .sh (e.set i (some x))).bind fun ys e3 => tone ys fun y => .ok (some y) e3
          else (evalP G cond .bo (e.set i (some x))).bind fun ts e2 => one ts fun t => (tests t e2).bind fun b e3 => if b = true then (evalP G elt .sh (e3.set i (some x))).bind fun ys e4 => tone ys fun y => .ok (some y) e4 else .ok none e3
theorem set_none_some {p : PEnv} {i : Nat} {x : PV} : (p.set i none).set i (some x) = p.set i (some x) := List.set_set ..
theorem step_ok {i : Nat} {cond elt : CE} (hc : isNil cond = true ∨ (isL cond = false ∧ SP F G cond)) (he : SP F G elt) (le : isL elt = false) {st : Store} {Z : Nat → Prop} {e : Env} {p p' : PEnv} {o : Cn} {x : Val} {q : PV} {r : Option PV}
    (E : ER st Z e (p.set i none) o) (W : Wf st Z o) (R : Rep st Z x q z0) (h : stepP G i cond elt q p = .ok r p') :
    ∃ w st' Z' a b, stepC F i cond elt e x st = .ok w st' ∧ (match r, w with | none, none => ∀ n, a n = 0 | some y, some v => Rep st' Z' v y a | _, _ => False) ∧ ER st' Z' e (p'.set i none) b ∧ Wf st' Z' (fun n => a n + b n) ∧ Go st Z o (calm G.io cond && calm G.io elt) st' Z' fun n => a n + b n := by
  obtain ⟨d, E0, hd⟩ := E.set i R
  rw [set_none_some] at E0
  have W0 : Wf st Z d := W.mono fun n => by have := hd n; simp at this; omega
  have Gd : ∀ {k st1 Z1 c1}, Go st Z d k st1 Z1 c1 → Go st Z o k st1 Z1 c1 := fun g => g.wide fun n => by have := hd n; simp at this; omega
  unfold stepP at h
  split at h
  · rename_i hn
    obtain ⟨ys, p1, q1, h1⟩ := PR.bind_ok h
    obtain ⟨y, hy, h2⟩ := tone_ok h1
    subst hy
    cases h2
    obtain ⟨r1, s1, Z1, a1, b1, f1, B1, E1, W1, G1⟩ := he.one le E0 W0 q1
    obtain ⟨b2, E2, hb⟩ := E1.unset
    refine ⟨some r1, s1, Z1, a1, b2, ?_, B1.tmp1, E2, W1.mono fun n => by have := hb n; (try dsimp only); omega, ?_⟩
    · unfold stepC
      rw [if_pos hn, f1]; rfl
    · have := (Gd G1).weak (d := fun n => a1 n + b2 n) fun n => by have := hb n; (try dsimp only); omega
      exact ⟨this.len, fun n hn q => this.keep n hn (q.imp (fun q => (Bool.and_eq_true_iff.mp q).2) id), this.zz, this.zn, this.on⟩
  · rename_i hn
    rcases hc with hc | ⟨lc, hc⟩
    · exact absurd hc hn
    obtain ⟨ts, p1, q1, h1⟩ := PR.bind_ok h
    obtain ⟨t, ht, h2⟩ := one_ok h1
    subst ht
    obtain ⟨b, p2, q2, h3⟩ := PR.bind_ok h2
    obtain ⟨r1, s1, Z1, b1, f1, f2, E1, W1, G1⟩ := hc.test lc E0 W0 q1 q2
    have run : stepC F i cond elt e x st = if b = true then (evalE F elt (e.set i (some x)) s1).bind fun y s4 => .ok (some y) s4 else .ok none s1 := by
      unfold stepC
      rw [if_neg hn, f1]
      show ((testV r1 s1).bind fun b s3 => if b = true then (evalE F elt (e.set i (some x)) s3).bind fun y s4 => Res.ok (some y) s4 else Res.ok none s3) = _
      rw [f2]; rfl
    rw [run]
    cases b with
    | false =>
      cases h3
      obtain ⟨b2, E2, hb⟩ := E1.unset
      refine ⟨none, s1, Z1, z0, b2, rfl, fun _ => rfl, E2, W1.mono fun n => by have := hb n; simp; omega, ?_⟩
      have := (Gd G1).weak (d := fun n => z0 n + b2 n) fun n => by have := hb n; simp; omega
      exact ⟨this.len, fun n hn q => this.keep n hn (q.imp (fun q => (Bool.and_eq_true_iff.mp q).1) id), this.zz, this.zn, this.on⟩
    | true =>
      obtain ⟨ys, p3, q3, h4⟩ := PR.bind_ok h3
      obtain ⟨y, hy, h5⟩ := tone_ok h4
      subst hy
      cases h5
      have R1 : Rep s1 Z1 x q z0 := R.frame (fun n z => G1.keep n (W0.zl n z) (.inr (by cases e : d n with | zero => rfl | succ j => exact absurd z (W0.nz n (by omega))))) G1.zz fun n q => by simp at q
      obtain ⟨d2, E2, hd2⟩ := E1.set i R1
      rw [List.set_set] at E2
      have W2 : Wf s1 Z1 d2 := W1.mono fun n => by have := hd2 n; simp at this; omega
      obtain ⟨r3, s3, Z3, a3, b3, f3, B3, E3, W3, G3⟩ := he.one le E2 W2 q3
      obtain ⟨b4, E4, hb⟩ := E3.unset
      refine ⟨some r3, s3, Z3, a3, b4, ?_, B3.tmp1, E4, W3.mono fun n => by have := hb n; (try dsimp only); omega, ?_⟩
      · show ((evalE F elt (e.set i (some x)) s1).bind fun y s4 => Res.ok (some y) s4) = _
        rw [f3]; rfl
      · exact ((Gd G1).trans (G3.wide fun n => by have := hd2 n; simp at this; omega)).weak fun n => by have := hb n; (try dsimp only); omega
noncomputable def compK (f : Val → Store → Res (Option Val)) (ok : Store → Prop) (D : Nat) (vs : List Val) (w : Option Val) (s1 : Store) : Res Val := match w with
          | none => compLoop f ok D vs s1
          | some y => (match s1[D]? with
            | some (.lst acc) => if acc.length < sizeLine then compLoop f ok D vs (s1.set D (.lst (acc ++ [y]))) else .stuck
            | _ => .stuck)
theorem comp_cons {f : Val → Store → Res (Option Val)} {ok : Store → Prop} {D : Nat} {v : Val} {vs : List Val} {st : Store} (h : ok st) : compLoop f ok D (v :: vs) st = (f v st).bind (compK f ok D vs) := by
  simp only [compLoop]
  rw [if_pos h]
  first | rfl | done
theorem comp_ok {i : Nat} {cond elt : CE} (hc : isNil cond = true ∨ (isL cond = false ∧ SP F G cond)) (he : SP F G elt) (le : isL elt = false) {e : Env} {L D : Nat} (hLD : L ≤ D) {ok : Store → Prop} {st0 : Store} {Z0 : Nat → Prop} (hok : ∀ st2 : Store, (∀ n, Z0 n → st2[n]? = st0[n]?) → ok st2) :
    ∀ {xs : List PV} {vs : List Val} {acc acc' : List PV} {accV : List Val} {p p' : PEnv} {st : Store} {Z : Nat → Prop} {o aa : Cn}, Reps st Z vs xs z0 → st[D]? = some (.lst accV) → Reps st Z accV acc aa → ER st Z e (p.set i none) o → Wf st Z (fun n => (if n = D then 1 else 0) + (aa n + o n)) → (∀ n, Z0 n → Z n ∧ st[n]? = st0[n]?) → L ≤ st.length →
      compP (stepP G i cond elt) xs acc p = .ok acc' p' →
      ∃ st' Z' o' aa' accV', compLoop (stepC F i cond elt e) ok D vs st = .ok (.ref D) st' ∧ st'[D]? = some (.lst accV') ∧ Reps st' Z' accV' acc' aa' ∧ ER st' Z' e (p'.set i none) o' ∧ Wf st' Z' (fun n => (if n = D then 1 else 0) + (aa' n + o' n)) ∧ GoB L st Z (fun n => (if n = D then 1 else 0) + (aa n + o n)) (calm G.io cond && calm G.io elt) st' Z' fun n => (if n = D then 1 else 0) + (aa' n + o' n)
  | [], vs, acc, acc', accV, p, p', st, Z, o, aa, T, hD, A, E, W, hz, hL, h => by
    cases T with
    | nil _ =>
      cases h
      refine ⟨st, Z, o, aa, accV, ?_, hD, A, E, W, GoB.refl fun n => Nat.le_refl _⟩
      simp only [compLoop]
      rw [if_pos (hok st fun n z => (hz n z).2)]
  | x :: xs, vs, acc, acc', accV, p, p', st, Z, o, aa, T, hD, A, E, W, hz, hL, h => by
    cases T with
    | @cons v _ vs _ a1 b1 c1 r t e1 =>
      have h : ((stepP G i cond elt x p).bind fun o e1 => match o with
        | none => compP (stepP G i cond elt) xs acc e1
        | some y => if acc.length < sizeLine then compP (stepP G i cond elt) xs (acc ++ [y]) e1 else .stuck) = .ok acc' p' := h
      obtain ⟨ro, p1, q1, h1⟩ := PR.bind_ok h
      have r0 : Rep st Z v x z0 := r.cong fun n => by have := e1 n; simp at this ⊢; omega
      have t0 : Reps st Z vs xs z0 := t.cong fun n => by have := e1 n; simp at this ⊢; omega
      obtain ⟨w, s1, Z1, a2, b2, f1, hw, E1, W1, G1⟩ := step_ok hc he le E (W.mono fun n => by (try dsimp only); omega) r0 q1
      have WD : Wf st Z fun n => ((if n = D then 1 else 0) + aa n) + o n := W.mono fun n => by (try dsimp only); omega
      have Wn := WD.frame G1 W1
      have hDo : o D = 0 := by have := W.one D; (try dsimp only at this); rw [if_pos rfl] at this; omega
      have hDl : D < st.length := (List.getElem?_eq_some_iff.mp hD).1
      have hD1 : s1[D]? = some (.lst accV) := by rw [G1.keep D hDl (.inr hDo)]; exact hD
      have A1 := A.keep (x := aa) (c := o) (W.mono fun n => by (try dsimp only); omega) G1
      have t1 : Reps s1 Z1 vs xs z0 := t0.keep (x := z0) (c := o) (W.mono fun n => by simp; omega) G1
      have hz1 : ∀ n, Z0 n → Z1 n ∧ s1[n]? = st0[n]? := fun n z => ⟨G1.zz n (hz n z).1, by
        rw [G1.keep n (W.zl n (hz n z).1) (.inr (by cases q : o n with | zero => rfl | succ j => exact absurd (hz n z).1 (W.nz n (by (try dsimp only); omega))))]; exact (hz n z).2⟩
      have GB : GoB L st Z (fun n => (if n = D then 1 else 0) + (aa n + o n)) (calm G.io cond && calm G.io elt) s1 Z1 fun n => (if n = D then 1 else 0) + (aa n + (a2 n + b2 n)) := by
        have := (G1.add (x := fun n => (if n = D then 1 else 0) + aa n)).b hL
        refine ⟨this.len, fun n hn q => this.keep n hn (q.imp id fun q => by (try dsimp only at *); omega), this.zz, fun n hn q => (this.zn n hn q).imp id fun q => by (try dsimp only at *); omega, fun n hn q => ?_⟩
        have := this.on n hn (by (try dsimp only at *); omega)
        (try dsimp only at *)
        omega
      have loop : compLoop (stepC F i cond elt e) ok D (v :: vs) st = compK (stepC F i cond elt e) ok D vs w s1 := by
        rw [comp_cons (hok st fun n z => (hz n z).2), f1]
        rfl
      rw [loop]
      cases ro with
      | none =>
        cases w with
        | some _ => exact hw.elim
        | none =>
          obtain ⟨st', Z', o', aa', accV', i1, i2, i3, i4, i5, i6⟩ := comp_ok hc he le hLD hok t1 hD1 A1 E1 (Wn.mono fun n => by (try dsimp only); omega) hz1 (Nat.le_trans hL G1.len) h1
          exact ⟨st', Z', o', aa', accV', i1, i2, i3, i4, i5, (GB.weak fun n => by (try dsimp only); omega).trans i6⟩
      | some y =>
        cases w with
        | none => exact hw.elim
        | some w =>
          have hw : Rep s1 Z1 w y a2 := hw
          dsimp only at h1
          split at h1
          case isFalse => cases h1
          rename_i hlen
          have hDl1 : D < s1.length := (List.getElem?_eq_some_iff.mp hD1).1
          have hcnt : aa D = 0 ∧ a2 D = 0 ∧ b2 D = 0 := by have := Wn.one D; (try dsimp only at this); rw [if_pos rfl] at this; omega
          have hDz : ¬ Z1 D := Wn.nz D (by (try dsimp only); rw [if_pos rfl]; omega)
          have kw : ∀ n, n ≠ D → (s1.set D (.lst (accV ++ [w])))[n]? = s1[n]? := fun n hn => List.getElem?_set_ne (Ne.symm hn)
          have kz : ∀ n, Z1 n → (s1.set D (.lst (accV ++ [w])))[n]? = s1[n]? := fun n z => kw n fun ee => by subst ee; exact hDz z
          obtain ⟨st', Z', o', aa', accV', i1, i2, i3, i4, i5, i6⟩ := comp_ok hc he le hLD hok (st := s1.set D (.lst (accV ++ [w]))) (accV := accV ++ [w]) (aa := fun n => aa n + a2 n) (o := b2)
            (t1.frame kz (fun _ z => z) fun n q => by simp at q) (List.getElem?_set_self hDl1) ((A1.frame kz (fun _ z => z) fun n q => kw n fun ee => by subst ee; omega).append (Reps.one (hw.frame kz (fun _ z => z) fun n q => kw n fun ee => by subst ee; omega)))
            (E1.frame kz (fun _ z => z) fun n q => kw n fun ee => by subst ee; omega) (Wn.write fun n => by (try dsimp only); omega) (fun n z => ⟨(hz1 n z).1, by rw [kz n (hz1 n z).1]; exact (hz1 n z).2⟩) (by rw [List.length_set]; exact Nat.le_trans hL G1.len) h1
          refine ⟨st', Z', o', aa', accV', ?_, i2, i3, i4, i5, GoB.trans (GB.weak (d := fun n => (if n = D then 1 else 0) + ((aa n + a2 n) + b2 n)) fun n => by (try dsimp only); omega) (GoB.trans ?_ i6)⟩
          · show (match s1[D]? with
              | some (.lst acc) => if acc.length < sizeLine then compLoop (stepC F i cond elt e) ok D vs (s1.set D (.lst (acc ++ [w]))) else .stuck
              | _ => .stuck) = _
            rw [hD1]
            show (if accV.length < sizeLine then compLoop (stepC F i cond elt e) ok D vs (s1.set D (.lst (accV ++ [w]))) else .stuck) = _
            rw [if_pos (by rw [A.length]; exact hlen)]
            exact i1
          · exact ⟨by simp, fun n hn _ => kw n (by omega), fun _ z => z, fun n _ z => .inl z, fun n _ q => q⟩
theorem sp_comp {k : Src} {i : Nat} {src cond elt : CE} (hs : SP F G src) (ls : match k with | .range => isArgs src = true | .seq => isL src = false) (hc : isNil cond = true ∨ (isL cond = false ∧ SP F G cond)) (he : SP F G elt) (le : isL elt = false) : SP F G (.comp k i src cond elt) where
  ok := fun {m p p' e st Z o bs} E W h => by
    have h : ((evalP G src .sh p).bind fun vs e1 => (match srcP k vs with
      | some xs => (compP (stepP G i cond elt) xs [] e1).bind fun acc e2 => PR.ok (tmp (.lst true acc)) (e2.set i (back e1 i))
      | none => .stuck)) = .ok bs p' := h
    obtain ⟨ws, p1, q1, h1⟩ := PR.bind_ok h
    split at h1
    case h_2 => cases h1
    rename_i items hit
    obtain ⟨acc, p2, q2, h2⟩ := PR.bind_ok h1
    cases h2
    obtain ⟨r, s1, vs, f1, hw, Z1, a1, b1, B1, E1, W1, G1⟩ := hs.ok E W q1
    obtain ⟨Z2, xs, S⟩ := src_ok (k := k) (v := r) B1 E1 W1 (by
      cases k with
      | range => exact wrap1 (args_L ls) hw
      | seq => exact wrap0 ls hw) hit
    have kp : ∀ n, n < s1.length → (s1 ++ [Cell.lst []])[n]? = s1[n]? := fun n hn => List.getElem?_append_left hn
    have kz : ∀ n, Z2 n → (s1 ++ [Cell.lst []])[n]? = s1[n]? := fun n z => kp n (S.wf.zl n z)
    have kb : ∀ n, 1 ≤ b1 n → (s1 ++ [Cell.lst []])[n]? = s1[n]? := fun n q => kp n (S.wf.lt n q)
    have E2 : ER (s1 ++ [Cell.lst []]) Z2 e p1 b1 := S.er.frame kz (fun _ z => z) kb
    obtain ⟨b2, E3, hb2⟩ := E2.forget1 i
    have Wa : Wf (s1 ++ [Cell.lst []]) Z2 fun n => (if n = s1.length then 1 else 0) + b1 n := S.wf.alloc
    obtain ⟨st', Z', o', aa', accV', i1, i2, i3, i4, i5, i6⟩ := comp_ok hc he le (L := s1.length) (D := s1.length) (Nat.le_refl _) (ok := stays k r xs) (st0 := s1) (Z0 := Z2) S.stay (S.rep.frame kz (fun _ z => z) fun n q => by simp at q) (accV := []) (aa := z0) (by simp) (.nil fun _ => rfl) E3 (Wa.mono fun n => by have := hb2 n; simp; omega) (fun n z => ⟨z, kz n z⟩) (by simp) q2
    have E4 : ∃ o'', ER st' Z' e (p2.set i (back p1 i)) o'' ∧ ∀ n, o'' n ≤ o' n := by
      unfold back
      split
      · rename_i v hv
        split
        · rename_i no
          obtain ⟨w, a3, b3, g1, R3, _⟩ := S.er.at_ hv
          have R4 : Rep s1 Z2 w v z0 := R3.z no
          have R5 : Rep st' Z' w v z0 := R4.frame (fun n z => by
            have hl := S.wf.zl n z
            rw [i6.keep n hl (.inr (by
              have := Wa.nz n
              have hb : b2 n = 0 := by
                cases q : b2 n with
                | zero => rfl
                | succ j => exact absurd z (S.wf.nz n (by have := hb2 n; omega))
              simp [hb]; omega))]
            exact kp n hl) i6.zz fun n q => by simp at q
          obtain ⟨d, E5, hd⟩ := i4.set i R5
          rw [set_none_some, set_same g1] at E5
          exact ⟨d, E5, fun n => by have := hd n; simp at this; omega⟩
        · exact ⟨o', i4, fun n => Nat.le_refl _⟩
      · exact ⟨o', i4, fun n => Nat.le_refl _⟩
    obtain ⟨o'', E5, ho''⟩ := E4
    refine ⟨.ref s1.length, st', [.ref s1.length], ?_, rfl, Z', fun n => (if n = s1.length then 1 else 0) + aa' n, o'', BOk.one (.lstO i2 i3 fun n => rfl), E5, i5.mono fun n => by have := ho'' n; (try dsimp only); omega, ?_⟩
    · show ((evalE F src e st).bind fun v s1 => match srcItems k v s1 with
        | some xs => compLoop (stepC F i cond elt e) (stays k v xs) s1.length xs (s1 ++ [Cell.lst []])
        | none => .stuck) = _
      rw [f1]
      show (match srcItems k r s1 with
        | some xs => compLoop (stepC F i cond elt e) (stays k r xs) s1.length xs (s1 ++ [Cell.lst []])
        | none => .stuck) = _
      rw [S.it]
      exact i1
    · have hb : ∀ n, n < s1.length → (if n = s1.length then 1 else 0) + (z0 n + b2 n) ≤ b1 n := fun n hn => by rw [if_neg (by omega)]; have := hb2 n; simp; omega
      refine ⟨Nat.le_trans G1.len (Nat.le_trans (by simp) i6.len), fun n hn q => ?_, fun n z => i6.zz n (S.zz n (G1.zz n z)), fun n hn z => ?_, fun n hn q => ?_⟩
      · have hn1 := Nat.lt_of_lt_of_le hn G1.len
        rw [i6.keep n hn1 ?_, kp n hn1, G1.keep n hn (q.imp (fun q => by have q : (calm G.io src && (calm G.io cond && calm G.io elt)) = true := q; exact (Bool.and_eq_true_iff.mp q).1) id)]
        refine q.imp (fun q => by have q : (calm G.io src && (calm G.io cond && calm G.io elt)) = true := q; exact (Bool.and_eq_true_iff.mp q).2) fun q => ?_
        have := hb n hn1
        have : b1 n = 0 := by
          cases q' : b1 n with
          | zero => rfl
          | succ j => have := G1.on n hn (by (try dsimp only); omega); omega
        (try dsimp only at *)
        omega
      · have hn1 := Nat.lt_of_lt_of_le hn G1.len
        rcases i6.zn n hn1 z with z | z
        · rcases S.zn n z with z | z
          · exact G1.zn n hn z
          · exact .inr (G1.on n hn (by (try dsimp only); omega))
        · exact .inr (G1.on n hn (by have := hb n hn1; (try dsimp only at *); omega))
      · have hn1 := Nat.lt_of_lt_of_le hn G1.len
        have := i6.on n hn1 (by have := ho'' n; (try dsimp only at *); omega)
        exact G1.on n hn (by have := hb n hn1; (try dsimp only at *); omega)
  exc := fun {m p p' e st Z o x u} E W h => by
    have h : ((evalP G src .sh p).bind fun vs e1 => (match srcP k vs with
      | some xs => (compP (stepP G i cond elt) xs [] e1).bind fun acc e2 => PR.ok (tmp (.lst true acc)) (e2.set i (back e1 i))
      | none => .stuck)) = .exc x u p' := h
    obtain ⟨ws, p1, q1, h1⟩ := PR.bind_exc h
    split at h1
    · obtain ⟨acc, p2, q2, h2⟩ := PR.bind_exc h1
      cases h2
    · cases h1
end
end Ev

set_option Elab.async false
set_option linter.all false
set_option maxRecDepth 100000
set_option maxHeartbeats 1000000
namespace Ev
open PySem
theorem iosel_none {α : Type} : ∀ {ms : List Bool} {xs : List α}, ms.any id = false → iosel ms xs = []
  | [], xs, _ => by cases xs <;> rfl
  | true :: ms, xs, h => by simp at h
  | false :: ms, [], _ => rfl
  | false :: ms, x :: xs, h => iosel_none (ms := ms) (xs := xs) (by simpa using h)
section
variable {st st' : Store} {Z Z' : Nat → Prop} {e : Env}
variable (st Z e) in
inductive RBk : List Bool → List Val → List BV → Cn → Prop
  | nil {ms : List Bool} {c : Cn} : (∀ n, c n = 0) → RBk ms [] [] c
  | io {ms : List Bool} {v : Val} {b : BV} {vs : List Val} {bs : List BV} {c : Cn} : RBk ms vs bs c → RBk (true :: ms) (v :: vs) (b :: bs) c
  | ro {ms : List Bool} {v : Val} {b : BV} {vs : List Val} {bs : List BV} {r1 r2 c : Cn} : BOk st Z e [v] [b] r1 → RBk ms vs bs r2 → (∀ n, c n = r1 n + r2 n) → RBk (false :: ms) (v :: vs) (b :: bs) c
  | en {v : Val} {b : BV} {vs : List Val} {bs : List BV} {r1 r2 c : Cn} : BOk st Z e [v] [b] r1 → RBk [] vs bs r2 → (∀ n, c n = r1 n + r2 n) → RBk [] (v :: vs) (b :: bs) c
theorem BOk.ends : ∀ {vs : List Val} {bs : List BV} {a : Cn}, BOk st Z e vs bs a → RBk st Z e [] vs bs a
  | _, [], _, h => by cases h with | nil z => exact .nil z
  | _, b :: bs, _, h => by
    obtain ⟨v, ws, z1, z2, rfl, B1, B2, e1⟩ := h.split
    exact .en B1 B2.ends e1
/-- slots whose things a call changes hold them -/
inductive IOk (e : Env) : List Bool → List Val → List BV → Prop
  | nil {ms : List Bool} : IOk e ms [] []
  | io {ms : List Bool} {v : Val} {b : BV} {vs : List Val} {bs : List BV} : (∀ r pa, b.pl = some (r, pa) → e[r]? = some (some v)) → IOk e ms vs bs → IOk e (true :: ms) (v :: vs) (b :: bs)
  | ro {ms : List Bool} {v : Val} {b : BV} {vs : List Val} {bs : List BV} : IOk e ms vs bs → IOk e (false :: ms) (v :: vs) (b :: bs)
  | en {v : Val} {b : BV} {vs : List Val} {bs : List BV} : IOk e [] (v :: vs) (b :: bs)
theorem take_ok : ∀ {ms : List Bool} {bs : List BV} {vs : List Val} {p ph : PEnv} {ivs : List PV} {a o : Cn}, BOk st Z e vs bs a → ER st Z e p o → takeIO ms bs p = some (ivs, ph) →
    ∃ ci rb co, Reps st Z (iosel ms vs) ivs ci ∧ RBk st Z e ms vs bs rb ∧ IOk e ms vs bs ∧ ER st Z e ph co ∧ ∀ n, ci n + (rb n + co n) ≤ a n + o n
  | [], bs, vs, p, ph, ivs, a, o, B, E, h => by
    cases bs with
    | nil =>
      cases h
      cases B with
      | nil z => exact ⟨z0, z0, o, .nil fun _ => rfl, .nil fun _ => rfl, .nil, E, fun n => by simp⟩
    | cons b bs =>
      cases h
      obtain ⟨v, ws, z1, z2, rfl, _⟩ := B.split
      exact ⟨z0, a, o, .nil fun _ => rfl, B.ends, .en, E, fun n => by simp⟩
  | m :: ms, [], vs, p, ph, ivs, a, o, B, E, h => by cases m <;> cases h
  | false :: ms, b :: bs, vs, p, ph, ivs, a, o, B, E, h => by
    obtain ⟨v, ws, z1, z2, rfl, B1, B2, e1⟩ := B.split
    obtain ⟨ci, rb, co, h1, h2, h3, h4, h5⟩ := take_ok (ms := ms) B2 E h
    exact ⟨ci, fun n => z1 n + rb n, co, h1, .ro B1 h2 fun n => rfl, .ro h3, h4, fun n => by have := e1 n; have := h5 n; (try dsimp only); omega⟩
  | true :: ms, b :: bs, vs, p, ph, ivs, a, o, B, E, h => by
    obtain ⟨bv, bpl⟩ := b
    cases B with
    | @tmp v q vs bs a1 b1 c1 r t e1 =>
      have h : (takeIO ms bs p).map (fun r => (bv :: r.1, r.2)) = some (ivs, ph) := h
      obtain ⟨⟨iv2, ph2⟩, h1, h2⟩ := map_some h
      cases h2
      obtain ⟨ci, rb, co, i1, i2, i3, i4, i5⟩ := take_ok (ms := ms) t E h1
      exact ⟨fun n => a1 n + ci n, rb, co, .cons r i1 fun n => rfl, .io i2, .io (fun r pa hh => by cases hh) i3, i4, fun n => by have := e1 n; have := i5 n; (try dsimp only); omega⟩
    | @pl v rv q r pa vs bs c1 g1 g2 t =>
      cases pa with
      | cons s0 pa => exfalso; revert h; simp [takeIO]
      | nil =>
        cases hp : p[r]? with
        | none => exfalso; revert h; simp [takeIO, hp]
        | some u =>
          cases u with
          | none => exfalso; revert h; simp [takeIO, hp]
          | some u =>
            have h : (takeIO ms bs (p.set r none)).map (fun q => (u :: q.1, q.2)) = some (ivs, ph) := by
              rw [← h]; simp only [takeIO, hp]
            cases g2
            obtain ⟨⟨iv2, ph2⟩, h1, h2⟩ := map_some h
            cases h2
            obtain ⟨w, a1, b1, f1, R, f2, _, E2⟩ := E.at_ hp
            rw [g1] at f1; cases f1
            obtain ⟨ci, rb, co, i1, i2, i3, i4, i5⟩ := take_ok (ms := ms) t E2 h1
            exact ⟨fun n => a1 n + ci n, rb, co, .cons R i1 fun n => rfl, .io i2, .io (fun r pa hh => by cases hh; exact g1) i3, i4, fun n => by have := f2 n; have := i5 n; (try dsimp only); omega⟩
/-- what is read, shared -/
theorem ro_ok {x : Cn} {q : Nat → Bool} {ph : PEnv} {v : Val} {b : BV} {r1 : Cn} {u : PV} {Zx : Nat → Prop} (hs : ∀ (r : Nat) (root : PV), q r = true → ph[r]? = some (some root) → ∃ (rv : Val) (a' : Cn), e[r]? = some (some rv) ∧ Rep st Z rv root a' ∧ ∀ n, a' n ≤ x n)
    (hq : ∀ r pa, b.pl = some (r, pa) → q r = true) (B : BOk st Z e [v] [b] r1) (hc : cur b ph = some u) (zz : ∀ n, Z n → Zx n) (hr : ∀ n, 1 ≤ r1 n → Zx n) (hx : ∀ n, 1 ≤ x n → Zx n) : Rep st Zx v u.frz z0 := by
  cases B with
  | tmp r t e1 =>
    cases hc
    exact r.frz zz fun n q => hr n (by rw [e1]; omega)
  | @pl _ rv _ r pa _ _ _ g1 g2 t =>
    have hc : getE ph r pa = some u := hc
    unfold getE at hc
    split at hc
    · rename_i root hroot
      split at hc
      · rename_i ho
        obtain ⟨rv', a', f1, R, f2⟩ := hs r root (hq r pa rfl) hroot
        rw [g1] at f1; cases f1
        obtain ⟨w, a2, b2, f3, R2, f4, _⟩ := R.path ho hc
        rw [g2] at f3; cases f3
        exact R2.frz zz fun n q => hx n (by have := f2 n; have := f4 n; omega)
      · cases hc
    · cases hc
theorem arg_ok {x : Cn} {q : Nat → Bool} {ph : PEnv} {Zx : Nat → Prop} (hs : ∀ (r : Nat) (root : PV), q r = true → ph[r]? = some (some root) → ∃ (rv : Val) (a' : Cn), e[r]? = some (some rv) ∧ Rep st Z rv root a' ∧ ∀ n, a' n ≤ x n) (zz : ∀ n, Z n → Zx n) (hx : ∀ n, 1 ≤ x n → Zx n) :
    ∀ {ms : List Bool} {bs : List BV} {vs : List Val} {ivs args : List PV} {ci rb : Cn}, RBk st Z e ms vs bs rb → Reps st Z (iosel ms vs) ivs ci → argV ms bs ivs ph = some args → (∀ r, roSlot ms bs r = true → q r = true) → (∀ n, 1 ≤ rb n → Zx n) → Reps st Zx vs args ci
  | [], [], vs, ivs, args, ci, rb, B, T, h, hq, hr => by
    cases B with
    | nil z =>
      cases h
      cases T with
      | nil z => exact .nil z
  | [], b :: bs, vs, ivs, args, ci, rb, B, T, h, hq, hr => by
    cases B with
    | @en v _ vs _ r1 r2 _ B1 B2 e1 =>
      have h : (cur b ph).bind (fun v => (argV [] bs ivs ph).map (v.frz :: ·)) = some args := h
      obtain ⟨u, h1, h2⟩ := bind_some h
      obtain ⟨us, h3, h4⟩ := map_some h2
      subst h4
      have hq1 : ∀ r pa, b.pl = some (r, pa) → q r = true := fun r pa hb => hq r (by
        show ((match b.pl with | some (r', _) => decide (r = r') | none => false) || roSlot [] bs r) = true
        rw [hb]; simp)
      have hq2 : ∀ r, roSlot [] bs r = true → q r = true := fun r hb => hq r (by
        show ((match b.pl with | some (r', _) => decide (r = r') | none => false) || roSlot [] bs r) = true
        rw [hb]; simp)
      have T' : Reps st Z (iosel ([] : List Bool) vs) ivs ci := by
        cases T with
        | nil z => exact .nil z
      exact .cons (a := z0) (ro_ok hs hq1 B1 h1 zz (fun n z => hr n (by rw [e1]; omega)) hx) (arg_ok hs zz hx B2 T' h3 hq2 fun n z => hr n (by rw [e1]; omega)) fun n => by simp
  | false :: ms, [], vs, ivs, args, ci, rb, B, T, h, hq, hr => by cases ivs <;> cases h
  | true :: ms, [], vs, ivs, args, ci, rb, B, T, h, hq, hr => by cases ivs <;> cases h
  | false :: ms, b :: bs, vs, ivs, args, ci, rb, B, T, h, hq, hr => by
    cases B with
    | @ro _ v _ vs _ r1 r2 _ B1 B2 e1 =>
      have h : (cur b ph).bind (fun v => (argV ms bs ivs ph).map (v.frz :: ·)) = some args := h
      obtain ⟨u, h1, h2⟩ := bind_some h
      obtain ⟨us, h3, h4⟩ := map_some h2
      subst h4
      have hq1 : ∀ r pa, b.pl = some (r, pa) → q r = true := fun r pa hb => hq r (by
        show ((match b.pl with | some (r', _) => decide (r = r') | none => false) || roSlot ms bs r) = true
        rw [hb]; simp)
      have hq2 : ∀ r, roSlot ms bs r = true → q r = true := fun r hb => hq r (by
        show ((match b.pl with | some (r', _) => decide (r = r') | none => false) || roSlot ms bs r) = true
        rw [hb]; simp)
      exact .cons (a := z0) (ro_ok hs hq1 B1 h1 zz (fun n z => hr n (by rw [e1]; omega)) hx) (arg_ok hs zz hx B2 T h3 hq2 fun n z => hr n (by rw [e1]; omega)) fun n => by simp
  | true :: ms, b :: bs, vs, ivs, args, ci, rb, B, T, h, hq, hr => by
    cases B with
    | @io _ v _ vs _ _ B2 =>
      cases T with
      | @cons _ iv _ ivs a1 b1 _ r1 t e1 =>
        have h : (argV ms bs ivs ph).map (iv :: ·) = some args := h
        obtain ⟨us, h3, h4⟩ := map_some h
        subst h4
        exact .cons (r1.frame (fun _ _ => rfl) zz fun _ _ => rfl) (arg_ok hs zz hx B2 t h3 hq hr) e1
theorem put_ok : ∀ {ms : List Bool} {bs : List BV} {vs : List Val} {outs : List PV} {p p2 : PEnv} {b o : Cn}, IOk e ms vs bs → Reps st Z (iosel ms vs) outs b → ER st Z e p o → putOuts ms bs outs p = some p2 → ∃ d, ER st Z e p2 d ∧ ∀ n, d n ≤ b n + o n
  | [], bs, vs, outs, p, p2, b, o, I, T, E, h => by
    cases outs with
    | nil => cases h; exact ⟨o, E, fun n => by omega⟩
    | cons _ _ => cases h
  | true :: ms, [], vs, outs, p, p2, b, o, I, T, E, h => by cases outs <;> cases h
  | false :: ms, [], vs, outs, p, p2, b, o, I, T, E, h => by cases h
  | false :: ms, y :: bs, vs, outs, p, p2, b, o, I, T, E, h => by
    cases I with
    | ro I2 => exact put_ok (ms := ms) I2 T E h
  | true :: ms, y :: bs, vs, outs, p, p2, b, o, I, T, E, h => by
    cases I with
    | @io _ v _ vs _ hv I2 =>
      cases T with
      | @cons _ q _ outs a1 b1 _ r1 t e1 =>
        have h : (match y.pl with | some (r, _) => putOuts ms bs outs (p.set r (some q)) | none => putOuts ms bs outs p) = some p2 := h
        split at h
        · rename_i r pa hpl
          obtain ⟨d, E2, hd⟩ := E.set r r1
          rw [set_same (hv r pa hpl)] at E2
          obtain ⟨d2, E3, hd2⟩ := put_ok (ms := ms) I2 t E2 h
          exact ⟨d2, E3, fun n => by have := hd n; have := hd2 n; have := e1 n; omega⟩
        · obtain ⟨d2, E3, hd2⟩ := put_ok (ms := ms) I2 t E h
          exact ⟨d2, E3, fun n => by have := hd2 n; have := e1 n; omega⟩
end
section
variable {F : Fns} {G : PFns}
/-- what comes behind a call -/
theorem after_call {io : List Bool} {bs : List BV} {vs : List Val} {st st' : Store} {Z Zx Z' : Nat → Prop} {e : Env} {ph p2 : PEnv} {a o ci rb co x y ra rB : Cn} {v : PV} {w : Val} {outs : List PV} {k : Bool}
    (W : Wf st Z fun n => a n + o n) (hcnt : ∀ n, ci n + (rb n + co n) ≤ a n + o n) (hxy : ∀ n, co n = x n + y n) (I : IOk e io vs bs) (E : ER st Z e ph co)
    (hfz : ∀ (st' : Store) (Z' : Nat → Prop), (∀ n, Z n → st'[n]? = st[n]?) → (∀ n, 1 ≤ co n → st'[n]? = st[n]?) → (∀ n, Z n → Z' n) → (∀ n, 1 ≤ x n → Z' n) → ER st' Z' e (frzWhere (roSlot io bs) ph) y)
    (hZx : ∀ n, Zx n ↔ (Z n ∨ 1 ≤ rb n ∨ 1 ≤ x n)) (R : Rep st' Z' w v ra) (T : Reps st' Z' (iosel io vs) outs rB) (W' : Wf st' Z' fun n => ra n + rB n) (G' : Go st Zx ci k st' Z' fun n => ra n + rB n)
    (h : putOuts io bs outs (if leak v outs = true then frzWhere (roSlot io bs) ph else ph) = some p2) :
    ∃ (Zf : Nat → Prop) (d : Cn), Rep st' Zf w v ra ∧ ER st' Zf e p2 d ∧ Wf st' Zf (fun n => ra n + d n) ∧ Go st Z (fun n => a n + o n) k st' Zf fun n => ra n + d n := by
  have one : ∀ n, a n + o n ≤ 1 := fun n => W.one n
  have zt : ∀ n, Z n → a n + o n = 0 := fun n z => by
    cases q : a n + o n with
    | zero => rfl
    | succ j => exact absurd z (W.nz n (by (try dsimp only); omega))
  have kz : ∀ n, Z n → st'[n]? = st[n]? := fun n z => G'.keep n (W.zl n z) (.inr (by have := zt n z; have := hcnt n; omega))
  have kc : ∀ n, 1 ≤ co n → st'[n]? = st[n]? := fun n q => G'.keep n (W.lt n (by have := hcnt n; (try dsimp only); omega)) (.inr (by have := one n; have := hcnt n; omega))
  have lt1 : ∀ n, 1 ≤ a n + o n → n < st.length := fun n q => W.lt n q
  have conn : ∀ n, 1 ≤ co n → ra n + rB n = 0 := fun n q => by
    cases e1 : ra n + rB n with
    | zero => rfl
    | succ j =>
      have hl := lt1 n (by have := hcnt n; omega)
      have := G'.on n hl (by (try dsimp only); omega)
      have := one n; have := hcnt n; omega
  cases hlk : leak v outs with
  | false =>
    rw [hlk] at h
    have h : putOuts io bs outs ph = some p2 := by simpa using h
    have nf : v.noF = true ∧ noFL outs = true := by
      unfold leak at hlk
      simpa using hlk
    have E2 : ER st' Z e ph co := E.frame kz (fun _ z => z) kc
    obtain ⟨d, E3, hd⟩ := put_ok I (T.free nf.2) E2 h
    refine ⟨Z, d, R.free nf.1, E3, ⟨fun n => ?_, fun n q z => ?_, fun n q => ?_, fun n z => Nat.lt_of_lt_of_le (W.zl n z) G'.len⟩, ⟨G'.len, fun n hn q => G'.keep n hn (q.imp id fun q => by have := hcnt n; (try dsimp only at *); omega), fun _ z => z, fun n _ z => .inl z, fun n hn q => ?_⟩⟩
    · have := hd n; have := W'.one n; have := one n; have := hcnt n
      by_cases q : 1 ≤ co n
      · have := conn n q; (try dsimp only at *); omega
      · (try dsimp only at *); omega
    · have := hd n
      by_cases q1 : 1 ≤ co n
      · have := zt n z; have := hcnt n; omega
      · exact W'.nz n (by (try dsimp only at *); omega) (G'.zz n ((hZx n).mpr (.inl z)))
    · have := hd n
      by_cases q1 : 1 ≤ co n
      · exact Nat.lt_of_lt_of_le (lt1 n (by have := hcnt n; omega)) G'.len
      · exact W'.lt n (by (try dsimp only at *); omega)
    · have := hd n
      by_cases q1 : 1 ≤ co n
      · have := hcnt n; (try dsimp only at *); omega
      · have := G'.on n hn (by (try dsimp only at *); omega); have := hcnt n; (try dsimp only at *); omega
  | true =>
    rw [hlk] at h
    have h : putOuts io bs outs (frzWhere (roSlot io bs) ph) = some p2 := by simpa using h
    have zZ : ∀ n, Z n → Z' n := fun n z => G'.zz n ((hZx n).mpr (.inl z))
    have E2 : ER st' Z' e (frzWhere (roSlot io bs) ph) y := hfz st' Z' kz kc zZ fun n q => G'.zz n ((hZx n).mpr (.inr (.inr q)))
    obtain ⟨d, E3, hd⟩ := put_ok I T E2 h
    have yz : ∀ n, 1 ≤ y n → ¬ Z' n ∧ n < st.length := fun n q => by
      have hl := lt1 n (by have := hcnt n; have := hxy n; omega)
      refine ⟨fun z => ?_, hl⟩
      rcases G'.zn n hl z with z | z
      · rcases (hZx n).mp z with z | z | z
        · have := zt n z; have := hcnt n; have := hxy n; omega
        · have := one n; have := hcnt n; have := hxy n; omega
        · have := one n; have := hcnt n; have := hxy n; omega
      · have := one n; have := hcnt n; have := hxy n; omega
    refine ⟨Z', d, R, E3, ⟨fun n => ?_, fun n q z => ?_, fun n q => ?_, W'.zl⟩, ⟨G'.len, fun n hn q => G'.keep n hn (q.imp id fun q => by have := hcnt n; (try dsimp only at *); omega), zZ, fun n hn z => ?_, fun n hn q => ?_⟩⟩
    · have := hd n; have := W'.one n; have := one n; have := hcnt n; have := hxy n
      by_cases q : 1 ≤ y n
      · have := conn n (by omega); (try dsimp only at *); omega
      · (try dsimp only at *); omega
    · have := hd n
      by_cases q1 : 1 ≤ y n
      · exact (yz n q1).1 z
      · exact W'.nz n (by (try dsimp only at *); omega) z
    · have := hd n
      by_cases q1 : 1 ≤ y n
      · exact Nat.lt_of_lt_of_le (yz n q1).2 G'.len
      · exact W'.lt n (by (try dsimp only at *); omega)
    · rcases G'.zn n hn z with z | z
      · rcases (hZx n).mp z with z | z | z
        · exact .inl z
        · exact .inr (by have := hcnt n; (try dsimp only); omega)
        · exact .inr (by have := hcnt n; have := hxy n; (try dsimp only); omega)
      · exact .inr (by have := hcnt n; (try dsimp only); omega)
    · have := hd n
      by_cases q1 : 1 ≤ y n
      · have := hcnt n; have := hxy n; (try dsimp only at *); omega
      · have := G'.on n hn (by (try dsimp only at *); omega); have := hcnt n; (try dsimp only at *); omega
/-- a call, by its arguments -/
theorem call_ok (hF : PF F G) {f : Str} {bs : List BV} {vs : List Val} {st : Store} {Z : Nat → Prop} {e : Env} {p : PEnv} {a o : Cn} (B : BOk st Z e vs bs a) (E : ER st Z e p o) (W : Wf st Z fun n => a n + o n) :
    (∀ {bs' p'}, callB G f bs p = .ok bs' p' → ∃ r st', F.fn f vs st = .ok r st' ∧ OutOk st Z (fun n => a n + o n) e (!(G.io f).any id) st' [r] bs' p') ∧
    (∀ {x v p'}, callB G f bs p = .exc x v p' → ∃ w st', F.fn f vs st = .exc x w st' ∧ OutX st Z (fun n => a n + o n) e (!(G.io f).any id) st' w v p') := by
  unfold callB
  cases h1 : takeIO (G.io f) bs p with
  | none => exact ⟨fun {_ _} h => (by cases h), fun {_ _ _} h => (by cases h)⟩
  | some q =>
    obtain ⟨ivs, ph⟩ := q
    dsimp only
    cases h2 : argV (G.io f) bs ivs ph with
    | none => exact ⟨fun {_ _} h => (by cases h), fun {_ _ _} h => (by cases h)⟩
    | some args =>
      dsimp only
      obtain ⟨ci, rb, co, T1, RB, I, E1, hcnt⟩ := take_ok B E h1
      obtain ⟨x, y, hxy, hsl, hfz⟩ := E1.frzW (roSlot (G.io f) bs)
      have A := arg_ok (Zx := fun n => Z n ∨ 1 ≤ rb n ∨ 1 ≤ x n) hsl (fun n z => .inl z) (fun n q => .inr (.inr q)) RB T1 h2 (fun r hr => hr) fun n q => .inr (.inl q)
      have Wc : Wf st (fun n => Z n ∨ 1 ≤ rb n ∨ 1 ≤ x n) ci := by
        refine ⟨fun n => ?_, fun n q z => ?_, fun n q => W.lt n (by have := hcnt n; (try dsimp only); omega), fun n z => ?_⟩
        · have := W.one n; have := hcnt n; (try dsimp only at *); omega
        · have h1 := W.one n
          have h2 := hcnt n
          have h3 := hxy n
          rcases z with z | z | z
          · exact W.nz n (by (try dsimp only); omega) z
          · (try dsimp only at *); omega
          · (try dsimp only at *); omega
        · have h2 := hcnt n
          have h3 := hxy n
          rcases z with z | z | z
          · exact W.zl n z
          · exact W.lt n (by (try dsimp only); omega)
          · exact W.lt n (by (try dsimp only); omega)
      have FR := hF.fn f args vs st _ ci A Wc fun hany => by
        rw [iosel_none hany] at T1
        cases T1 with
        | nil z => exact z
      cases h3 : G.fn f args with
      | stuck => exact ⟨fun {_ _} h => (by cases h), fun {_ _ _} h => (by cases h)⟩
      | ok v outs =>
        rw [h3] at FR
        obtain ⟨w, st', Z', ra, rB, f1, R, T, W', G'⟩ := FR
        dsimp only
        refine ⟨fun {bs' p'} h => ?_, fun {_ _ _} h => (by split at h <;> cases h)⟩
        split at h
        · rename_i e2 h4
          cases h
          obtain ⟨Zf, d, R2, E2, W2, G2⟩ := after_call W hcnt hxy I E1 hfz (fun n => Iff.rfl) R T W' G' h4
          exact ⟨w, st', f1, Zf, ra, d, BOk.one R2, E2, W2, G2⟩
        · cases h
      | exc y0 v outs =>
        rw [h3] at FR
        obtain ⟨w, st', Z', rB, f1, R, nn, T, W', G'⟩ := FR
        dsimp only
        refine ⟨fun {_ _} h => (by split at h <;> cases h), fun {x v p'} h => ?_⟩
        split at h
        · rename_i e2 h4
          cases h
          obtain ⟨Zf, d, R2, E2, W2, G2⟩ := after_call (ra := z0) W hcnt hxy I E1 hfz (fun n => Iff.rfl) R T (W'.mono fun n => by simp) (G'.weak fun n => by simp) h4
          exact ⟨w, st', f1, Zf, d, R2, nn, E2, W2.mono fun n => by simp, G2.weak fun n => by simp⟩
        · cases h
theorem sp_call (hF : PF F G) {f : Str} {args : CE} (ha : SP F G args) (la : isArgs args = true) : SP F G (.call f args) where
  ok := fun {m p p' e st Z o bs} E W h => by
    have h : (match evalP G args .bo p with
      | .ok bs e1 => callB G f bs e1
      | .exc c v e1 => if G.has f = true then PR.exc c v e1 else .stuck
      | .stuck => .stuck) = .ok bs p' := h
    split at h
    · rename_i bs1 p1 q1
      obtain ⟨vs, s1, Z1, a1, b1, f1, B1, E1, W1, G1⟩ := ha.all (args_L la) E W q1
      obtain ⟨r, s2, f2, Z2, a2, b2, B2, E2, W2, G2⟩ := (call_ok hF B1 E1 W1).1 h
      refine ⟨r, s2, [r], ?_, rfl, Z2, a2, b2, B2, E2, W2, G1.trans G2⟩
      show callX F f (evalE F args e st) = _
      rw [f1]; exact f2
    · split at h <;> cases h
    · cases h
  exc := fun {m p p' e st Z o x u} E W h => by
    have h : (match evalP G args .bo p with
      | .ok bs e1 => callB G f bs e1
      | .exc c v e1 => if G.has f = true then PR.exc c v e1 else .stuck
      | .stuck => .stuck) = .exc x u p' := h
    split at h
    · rename_i bs1 p1 q1
      obtain ⟨vs, s1, Z1, a1, b1, f1, B1, E1, W1, G1⟩ := ha.all (args_L la) E W q1
      obtain ⟨w, s2, f2, Z2, b2, R2, nn, E2, W2, G2⟩ := (call_ok hF B1 E1 W1).2 h
      refine ⟨w, s2, ?_, Z2, b2, R2, nn, E2, W2, G1.trans G2⟩
      show callX F f (evalE F args e st) = _
      rw [f1]; exact f2
    · rename_i c v p1 q1
      split at h
      · rename_i hh
        cases h
        obtain ⟨w, s1, f1, O⟩ := ha.exc E W q1
        refine ⟨w, s1, ?_, O.less fun z => by have z : (calm G.io args && !(G.io f).any id) = true := z; exact (Bool.and_eq_true_iff.mp z).1⟩
        show callX F f (evalE F args e st) = _
        rw [f1]
        show (if F.has f = true then Res.exc x w s1 else .stuck) = _
        rw [if_pos (by rw [hF.has]; exact hh)]
      · cases h
    · cases h
theorem nlw {a : CE} (h : (!isL a && wfE a) = true) : isL a = false ∧ wfE a = true := by simpa using h
theorem alw {a : CE} (h : (isArgs a && wfE a) = true) : isArgs a = true ∧ wfE a = true := by simpa using h
theorem sp_all (hF : PF F G) : ∀ c : CE, wfE c = true → SP F G c := by
  intro c
  induction c with
  | var i => exact fun _ => sp_var i
  | none_ => exact fun _ => sp_const (fun _ _ => rfl) (fun _ _ => rfl) rfl fun _ _ => .none fun _ => rfl
  | bool_ b => exact fun _ => sp_const (fun _ _ => rfl) (fun _ _ => rfl) rfl fun _ _ => .bool b fun _ => rfl
  | int_ i => exact fun _ => sp_const (fun _ _ => rfl) (fun _ _ => rfl) rfl fun _ _ => .int i fun _ => rfl
  | str_ s => exact fun _ => sp_const (fun _ _ => rfl) (fun _ _ => rfl) rfl fun _ _ => .str s fun _ => rfl
  | glob x => exact fun _ => sp_glob hF x
  | nil => exact fun _ => sp_nil
  | cons a r ia ir =>
    intro h
    have h : ((!isL a && wfE a) && (isArgs r && wfE r)) = true := h
    rw [Bool.and_eq_true] at h
    exact sp_cons (ia (nlw h.1).2) (ir (alw h.2).2) (nlw h.1).1 (alw h.2).1
  | tup a ia => intro h; have h := alw h; exact sp_tup (ia h.2) h.1
  | lst a ia => intro h; have h := alw h; exact sp_lst (ia h.2) h.1
  | bin op a b ia ib =>
    intro h
    have h : ((!isL a && wfE a) && (!isL b && wfE b)) = true := h
    rw [Bool.and_eq_true] at h
    exact sp_bin (ia (nlw h.1).2) (ib (nlw h.2).2) (nlw h.1).1 (nlw h.2).1
  | neg a ia => intro h; have h := nlw h; exact sp_neg (ia h.2) h.1
  | cmp op a b ia ib =>
    intro h
    have h : ((!isL a && wfE a) && (!isL b && wfE b)) = true := h
    rw [Bool.and_eq_true] at h
    exact sp_cmp (ia (nlw h.1).2) (ib (nlw h.2).2) (nlw h.1).1 (nlw h.2).1
  | chain op op' a b c ia ib ic =>
    intro h
    have h : ((!isL a && wfE a) && ((!isL b && wfE b) && (!isL c && wfE c))) = true := h
    have h := Bool.and_eq_true_iff.mp h
    have h := And.intro h.1 (Bool.and_eq_true_iff.mp h.2)
    exact sp_chain (ia (nlw h.1).2) (ib (nlw h.2.1).2) (ic (nlw h.2.2).2) (nlw h.1).1 (nlw h.2.1).1 (nlw h.2.2).1
  | and1 a ia => intro h; have h := nlw h; exact sp_and1 (ia h.2) h.1
  | and2 a b ia ib =>
    intro h
    have h : ((!isL a && wfE a) && (!isL b && wfE b)) = true := h
    rw [Bool.and_eq_true] at h
    exact sp_and2 (ia (nlw h.1).2) (ib (nlw h.2).2) (nlw h.1).1 (nlw h.2).1
  | or1 a ia => intro h; have h := nlw h; exact sp_or1 (ia h.2) h.1
  | or2 a b ia ib =>
    intro h
    have h : ((!isL a && wfE a) && (!isL b && wfE b)) = true := h
    rw [Bool.and_eq_true] at h
    exact sp_or2 (ia (nlw h.1).2) (ib (nlw h.2).2) (nlw h.1).1 (nlw h.2).1
  | not_ a ia => intro h; have h := nlw h; exact sp_not (ia h.2) h.1
  | ifx a b c ia ib ic =>
    intro h
    have h : ((!isL a && wfE a) && ((!isL b && wfE b) && (!isL c && wfE c))) = true := h
    have h := Bool.and_eq_true_iff.mp h
    have h := And.intro h.1 (Bool.and_eq_true_iff.mp h.2)
    exact sp_ifx (ia (nlw h.1).2) (ib (nlw h.2.1).2) (ic (nlw h.2.2).2) (nlw h.1).1 (nlw h.2.1).1 (nlw h.2.2).1
  | ix a b ia ib =>
    intro h
    have h : ((!isL a && wfE a) && (!isL b && wfE b)) = true := h
    rw [Bool.and_eq_true] at h
    exact sp_ix (ia (nlw h.1).2) (ib (nlw h.2).2) (nlw h.1).1 (nlw h.2).1
  | slice a l u ia il iu =>
    intro h
    have h : ((!isL a && wfE a) && ((isNil l || (!isL l && wfE l)) && (isNil u || (!isL u && wfE u)))) = true := h
    have h := Bool.and_eq_true_iff.mp h
    have h2 := Bool.and_eq_true_iff.mp h.2
    rw [Bool.or_eq_true, Bool.or_eq_true] at h2
    have h := And.intro h.1 h2
    exact sp_slice (ia (nlw h.1).2) (nlw h.1).1 (h.2.1.imp id fun z => ⟨(nlw z).1, il (nlw z).2⟩) (h.2.2.imp id fun z => ⟨(nlw z).1, iu (nlw z).2⟩)
  | rev a ia => intro h; have h := nlw h; exact sp_rev (ia h.2) h.1
  | call f a ia => intro h; have h := alw h; exact sp_call hF (ia h.2) h.1
  | bi b a ia => intro h; have h := alw h; exact sp_bi (ia h.2) h.1
  | isi t a ia => intro h; have h := nlw h; exact sp_isi (ia h.2) h.1
  | meth m o a io ia =>
    intro h
    have h : ((!isL o && wfE o) && (isArgs a && wfE a)) = true := h
    rw [Bool.and_eq_true] at h
    exact sp_meth (io (nlw h.1).2) (ia (alw h.2).2) (nlw h.1).1 (alw h.2).1
  | comp k i s c e is ic ie =>
    intro h
    cases k with
    | range =>
      have h : ((isArgs s && wfE s) && ((isNil c || (!isL c && wfE c)) && (!isL e && wfE e))) = true := h
      have h := Bool.and_eq_true_iff.mp h
      have h2 := Bool.and_eq_true_iff.mp h.2
      rw [Bool.or_eq_true] at h2
      exact sp_comp (is (alw h.1).2) (alw h.1).1 (h2.1.imp id fun z => ⟨(nlw z).1, ic (nlw z).2⟩) (ie (nlw h2.2).2) (nlw h2.2).1
    | seq =>
      have h : ((!isL s && wfE s) && ((isNil c || (!isL c && wfE c)) && (!isL e && wfE e))) = true := h
      have h := Bool.and_eq_true_iff.mp h
      have h2 := Bool.and_eq_true_iff.mp h.2
      rw [Bool.or_eq_true] at h2
      exact sp_comp (is (nlw h.1).2) (nlw h.1).1 (h2.1.imp id fun z => ⟨(nlw z).1, ic (nlw z).2⟩) (ie (nlw h2.2).2) (nlw h2.2).1
  | kv k v r ik iv ir =>
    intro h
    have h : ((!isL k && wfE k) && ((!isL v && wfE v) && (isKvs r && wfE r))) = true := h
    have h := Bool.and_eq_true_iff.mp h
    have h2 := Bool.and_eq_true_iff.mp h.2
    have h := And.intro h.1 (And.intro h2.1 (Bool.and_eq_true_iff.mp h2.2))
    exact sp_kv (ik (nlw h.1).2) (iv (nlw h.2.1).2) (ir h.2.2.2) (nlw h.1).1 (nlw h.2.1).1 h.2.2.1
  | dict p ip =>
    intro h
    have h : (isKvs p && wfE p) = true := h
    rw [Bool.and_eq_true] at h
    exact sp_dict (ip h.2) h.1
  | isx x a ia => intro h; have h := nlw h; exact sp_isx hF (ia h.2) h.1
  | fld f a ia => intro h; have h := nlw h; exact sp_fld hF (ia h.2) h.1
end
end Ev

set_option Elab.async false
set_option linter.all false
set_option maxRecDepth 100000
set_option maxHeartbeats 1000000
/-! ## Statements, functions -/
namespace Ev
open PySem
def wfS : CS → Bool
  | .seq s r => wfS s && wfS r
  | .expr e => !isL e && wfE e
  | .ret e => !isL e && wfE e
  | .set _ e => !isL e && wfE e
  | .tset _ e => !isL e && wfE e
  | .tpar _ _ e => isArgs e && wfE e
  | .sub o i e => (!isL o && wfE o) && ((!isL i && wfE i) && (!isL e && wfE e))
  | .if_ c a b => (!isL c && wfE c) && (wfS a && wfS b)
  | .while_ c a => (!isL c && wfE c) && wfS a
  | .for_ k _ src a => (match k with | .range => isArgs src && wfE src | .seq => !isL src && wfE src) && wfS a
  | .raise1 _ e => !isL e && wfE e
  | .tryc _ e _ _ _ => !isL e && wfE e
  | _ => true
inductive FlowR (st : Store) (Z : Nat → Prop) : Flow → PFlow → Cn → Prop
  | next {c : Cn} : (∀ n, c n = 0) → FlowR st Z .next .next c
  | brk {c : Cn} : (∀ n, c n = 0) → FlowR st Z .brk .brk c
  | cont {c : Cn} : (∀ n, c n = 0) → FlowR st Z .cont .cont c
  | ret {v : Val} {q : PV} {c : Cn} : Rep st Z v q c → FlowR st Z (.ret v) (.ret q) c
/-- slots that are not set stay -/
def Same (q : Nat → Bool) (e e' : Env) : Prop := ∀ i, q i = true → e'[i]? = e[i]?
theorem Same.refl {q : Nat → Bool} {e : Env} : Same q e e := fun _ _ => rfl
theorem Same.trans {q : Nat → Bool} {e e1 e2 : Env} (h : Same q e e1) (h' : Same q e1 e2) : Same q e e2 := fun i hi => (h' i hi).trans (h i hi)
theorem Same.set {q : Nat → Bool} {e : Env} {j : Nat} {x : Option Val} (h : q j = false) : Same q e (e.set j x) := fun i hi => List.getElem?_set_ne (fun z => by subst z; rw [h] at hi; cases hi)
def OutS (st : Store) (Z : Nat → Prop) (o : Cn) (e : Env) (q : Nat → Bool) (st' : Store) (fl : Flow) (f : PFlow) (e' : Env) (p' : PEnv) : Prop :=
  ∃ (Z' : Nat → Prop) (a b : Cn), FlowR st' Z' fl f a ∧ ER st' Z' e' p' b ∧ Wf st' Z' (fun n => a n + b n) ∧ Go st Z o false st' Z' (fun n => a n + b n) ∧ Same q e e'
def OutSX (st : Store) (Z : Nat → Prop) (o : Cn) (e : Env) (q : Nat → Bool) (st' : Store) (w : Val) (v : PV) (p' : PEnv) : Prop :=
  ∃ (Z' : Nat → Prop) (b : Cn) (e' : Env), Rep st' Z' w v z0 ∧ (v.noO = true ∧ v.noF = true) ∧ ER st' Z' e' p' b ∧ Wf st' Z' b ∧ Go st Z o false st' Z' b ∧ Same q e e'
/-- a block's run -/
structure RunOk (run : Env → Store → Res (Flow × Env)) (runp : PEnv → PR PFlow) (q : Nat → Bool) : Prop where
  ok : ∀ {p p' : PEnv} {e : Env} {st : Store} {Z : Nat → Prop} {o : Cn} {f : PFlow}, ER st Z e p o → Wf st Z o → runp p = .ok f p' → ∃ fl e' st', run e st = .ok (fl, e') st' ∧ OutS st Z o e q st' fl f e' p'
  exc : ∀ {p p' : PEnv} {e : Env} {st : Store} {Z : Nat → Prop} {o : Cn} {x : Str} {v : PV}, ER st Z e p o → Wf st Z o → runp p = .exc x v p' → ∃ w st', run e st = .exc x w st' ∧ OutSX st Z o e q st' w v p'
section
variable {F : Fns} {G : PFns}
abbrev SS (F : Fns) (G : PFns) (c : CS) : Prop := RunOk (evalS F c) (evalPS G c) (fun i => noSet i c)
theorem Go.calmless {st st' : Store} {Z Z' : Nat → Prop} {c c' : Cn} {k : Bool} (g : Go st Z c k st' Z' c') : Go st Z c false st' Z' c' := ⟨g.len, fun n hn q => g.keep n hn (.inr (q.elim (fun z => by cases z) id)), g.zz, g.zn, g.on⟩
theorem Go.transF {st st1 st2 : Store} {Z Z1 Z2 : Nat → Prop} {c c1 c2 : Cn} (g : Go st Z c false st1 Z1 c1) (g' : Go st1 Z1 c1 false st2 Z2 c2) : Go st Z c false st2 Z2 c2 := g.trans g'
theorem OutS.mono {st st' : Store} {Z : Nat → Prop} {o : Cn} {e : Env} {q q' : Nat → Bool} {fl : Flow} {f : PFlow} {e' : Env} {p' : PEnv} (h : OutS st Z o e q st' fl f e' p') (hq : ∀ i, q' i = true → q i = true) : OutS st Z o e q' st' fl f e' p' := by
  obtain ⟨Z', a, b, h1, h2, h3, h4, h5⟩ := h
  exact ⟨Z', a, b, h1, h2, h3, h4, fun i hi => h5 i (hq i hi)⟩
theorem OutSX.mono {st st' : Store} {Z : Nat → Prop} {o : Cn} {e : Env} {q q' : Nat → Bool} {w : Val} {v : PV} {p' : PEnv} (h : OutSX st Z o e q st' w v p') (hq : ∀ i, q' i = true → q i = true) : OutSX st Z o e q' st' w v p' := by
  obtain ⟨Z', b, e', h0, h1, h2, h3, h4, h5⟩ := h
  exact ⟨Z', b, e', h0, h1, h2, h3, h4, fun i hi => h5 i (hq i hi)⟩
/-- behind a run that went on -/
theorem OutS.seq {st st1 st2 : Store} {Z Z1 : Nat → Prop} {o a b : Cn} {e e1 : Env} {q : Nat → Bool} {fl : Flow} {f : PFlow} {e' : Env} {p' : PEnv} (g : Go st Z o false st1 Z1 fun n => a n + b n) (s : Same q e e1) (h : OutS st1 Z1 b e1 q st2 fl f e' p') : OutS st Z o e q st2 fl f e' p' := by
  obtain ⟨Z', a', b', h1, h2, h3, h4, h5⟩ := h
  exact ⟨Z', a', b', h1, h2, h3, (g.weak fun n => by (try dsimp only); omega).transF h4, s.trans h5⟩
theorem OutSX.seq {st st1 st2 : Store} {Z Z1 : Nat → Prop} {o a b : Cn} {e e1 : Env} {q : Nat → Bool} {w : Val} {v : PV} {p' : PEnv} (g : Go st Z o false st1 Z1 fun n => a n + b n) (s : Same q e e1) (h : OutSX st1 Z1 b e1 q st2 w v p') : OutSX st Z o e q st2 w v p' := by
  obtain ⟨Z', b', e', h0, h1, h2, h3, h4, h5⟩ := h
  exact ⟨Z', b', e', h0, h1, h2, h3, (g.weak fun n => by (try dsimp only); omega).transF h4, s.trans h5⟩
theorem ss_flow {c : CS} {fl : Flow} {f : PFlow} (he : ∀ e st, evalS F c e st = .ok (fl, e) st) (hp : ∀ p, evalPS G c p = .ok f p) (hf : ∀ st Z, FlowR st Z fl f z0) : SS F G c where
  ok := fun {p p' e st Z o f} E W h => by
    rw [hp] at h; cases h
    exact ⟨fl, e, st, he e st, Z, z0, o, hf st Z, E, W.mono fun n => by simp, Go.refl fun n => by simp, Same.refl⟩
  exc := fun {p p' e st Z o x v} E W h => by rw [hp] at h; cases h
theorem ss_seq {s r : CS} (hs : SS F G s) (hr : SS F G r) : SS F G (.seq s r) where
  ok := fun {p p' e st Z o f} E W h => by
    have h : ((evalPS G s p).bindX fun f e1 => match f with | .next => evalPS G r e1 | f => .ok f e1) = .ok f p' := h
    obtain ⟨f1, p1, q1, h1⟩ := PR.bindX_ok h
    obtain ⟨fl, e1, s1, g1, Z1, a1, b1, R1, E1, W1, G1, S1⟩ := hs.ok E W q1
    have hq : ∀ i, noSet i (.seq s r) = true → noSet i s = true ∧ noSet i r = true := fun i hi => Bool.and_eq_true_iff.mp hi
    cases R1 with
    | next z =>
      obtain ⟨fl2, e2, s2, g2, O2⟩ := hr.ok E1 (W1.mono fun n => by (try dsimp only); omega) h1
      refine ⟨fl2, e2, s2, ?_, OutS.seq G1 (fun i hi => S1 i (hq i hi).1) (O2.mono fun i hi => (hq i hi).2)⟩
      show ((evalS F s e st).bindX fun p s1 => match p.1 with | .next => evalS F r p.2 s1 | f => .ok (f, p.2) s1) = _
      rw [g1]; exact g2
    | brk z =>
      cases h1
      exact ⟨_, e1, s1, by show ((evalS F s e st).bindX _) = _; rw [g1]; rfl, Z1, a1, b1, .brk z, E1, W1, G1, fun i hi => S1 i (hq i hi).1⟩
    | cont z =>
      cases h1
      exact ⟨_, e1, s1, by show ((evalS F s e st).bindX _) = _; rw [g1]; rfl, Z1, a1, b1, .cont z, E1, W1, G1, fun i hi => S1 i (hq i hi).1⟩
    | ret z =>
      cases h1
      exact ⟨_, e1, s1, by show ((evalS F s e st).bindX _) = _; rw [g1]; rfl, Z1, a1, b1, .ret z, E1, W1, G1, fun i hi => S1 i (hq i hi).1⟩
  exc := fun {p p' e st Z o x v} E W h => by
    have h : ((evalPS G s p).bindX fun f e1 => match f with | .next => evalPS G r e1 | f => .ok f e1) = .exc x v p' := h
    have hq : ∀ i, noSet i (.seq s r) = true → noSet i s = true ∧ noSet i r = true := fun i hi => Bool.and_eq_true_iff.mp hi
    rcases PR.bindX_exc h with q1 | ⟨f1, p1, q1, h1⟩
    · obtain ⟨w, s1, g1, O1⟩ := hs.exc E W q1
      refine ⟨w, s1, ?_, O1.mono fun i hi => (hq i hi).1⟩
      show ((evalS F s e st).bindX _) = _
      rw [g1]; rfl
    · obtain ⟨fl, e1, s1, g1, Z1, a1, b1, R1, E1, W1, G1, S1⟩ := hs.ok E W q1
      cases R1 with
      | next z =>
        obtain ⟨w, s2, g2, O2⟩ := hr.exc E1 (W1.mono fun n => by (try dsimp only); omega) h1
        refine ⟨w, s2, ?_, OutSX.seq G1 (fun i hi => S1 i (hq i hi).1) (O2.mono fun i hi => (hq i hi).2)⟩
        show ((evalS F s e st).bindX fun p s1 => match p.1 with | .next => evalS F r p.2 s1 | f => .ok (f, p.2) s1) = _
        rw [g1]; exact g2
      | _ => cases h1
theorem outx_s {e : Env} {st st' : Store} {Z : Nat → Prop} {o : Cn} {k : Bool} {w : Val} {v : PV} {p' : PEnv} {q : Nat → Bool} (h : OutX st Z o e k st' w v p') : OutSX st Z o e q st' w v p' := by
  obtain ⟨Z', b, R, nn, E, W, g⟩ := h
  exact ⟨Z', b, e, R, nn, E, W, g.calmless, Same.refl⟩
theorem ss_expr {c : CE} (hc : SP F G c) (lc : isL c = false) : SS F G (.expr c) where
  ok := fun {p p' e st Z o f} E W h => by
    have h : ((evalP G c .bo p).bindX fun xs e1 => one xs fun _ => PR.ok PFlow.next e1) = .ok f p' := h
    obtain ⟨xs, p1, q1, h1⟩ := PR.bindX_ok h
    obtain ⟨x, hx, h2⟩ := one_ok h1
    subst hx
    cases h2
    obtain ⟨r1, s1, Z1, a1, b1, f1, B1, E1, W1, G1⟩ := hc.one lc E W q1
    refine ⟨.next, e, s1, ?_, Z1, z0, b1, .next fun _ => rfl, E1, W1.mono fun n => by simp, (G1.weak fun n => by simp).calmless, Same.refl⟩
    show ((evalE F c e st).bindX fun _ s1 => Res.ok (Flow.next, e) s1) = _
    rw [f1]; rfl
  exc := fun {p p' e st Z o x v} E W h => by
    have h : ((evalP G c .bo p).bindX fun xs e1 => one xs fun _ => PR.ok PFlow.next e1) = .exc x v p' := h
    rcases PR.bindX_exc h with q1 | ⟨xs, p1, q1, h1⟩
    · obtain ⟨w, s1, f1, O⟩ := hc.exc E W q1
      refine ⟨w, s1, ?_, outx_s O⟩
      show ((evalE F c e st).bindX _) = _
      rw [f1]; rfl
    · obtain ⟨x, hx, h2⟩ := one_exc h1
      cases h2
theorem ss_ret {c : CE} (hc : SP F G c) (lc : isL c = false) : SS F G (.ret c) where
  ok := fun {p p' e st Z o f} E W h => by
    have h : ((evalP G c .mv p).bindX fun xs e1 => tone xs fun v => PR.ok (PFlow.ret v) e1) = .ok f p' := h
    obtain ⟨xs, p1, q1, h1⟩ := PR.bindX_ok h
    obtain ⟨x, hx, h2⟩ := tone_ok h1
    subst hx
    cases h2
    obtain ⟨r1, s1, Z1, a1, b1, f1, B1, E1, W1, G1⟩ := hc.one lc E W q1
    refine ⟨.ret r1, e, s1, ?_, Z1, a1, b1, .ret B1.tmp1, E1, W1, G1.calmless, Same.refl⟩
    show ((evalE F c e st).bindX fun v s1 => Res.ok (Flow.ret v, e) s1) = _
    rw [f1]; rfl
  exc := fun {p p' e st Z o x v} E W h => by
    have h : ((evalP G c .mv p).bindX fun xs e1 => tone xs fun v => PR.ok (PFlow.ret v) e1) = .exc x v p' := h
    rcases PR.bindX_exc h with q1 | ⟨xs, p1, q1, h1⟩
    · obtain ⟨w, s1, f1, O⟩ := hc.exc E W q1
      refine ⟨w, s1, ?_, outx_s O⟩
      show ((evalE F c e st).bindX _) = _
      rw [f1]; rfl
    · obtain ⟨x, hx, h2⟩ := tone_exc h1
      cases h2
theorem ss_set {i : Nat} {c : CE} (hc : SP F G c) (lc : isL c = false) : SS F G (.set i c) where
  ok := fun {p p' e st Z o f} E W h => by
    have h : ((evalP G c .sh p).bindX fun xs e1 => tone xs fun v => PR.ok PFlow.next (e1.set i (some v))) = .ok f p' := h
    obtain ⟨xs, p1, q1, h1⟩ := PR.bindX_ok h
    obtain ⟨x, hx, h2⟩ := tone_ok h1
    subst hx
    cases h2
    obtain ⟨r1, s1, Z1, a1, b1, f1, B1, E1, W1, G1⟩ := hc.one lc E W q1
    obtain ⟨d, E2, hd⟩ := E1.set i B1.tmp1
    refine ⟨.next, e.set i (some r1), s1, ?_, Z1, z0, d, .next fun _ => rfl, E2, W1.mono fun n => by have := hd n; simp; omega, (G1.weak fun n => by have := hd n; simp; omega).calmless, Same.set ?_⟩
    · show ((evalE F c e st).bindX fun v s1 => Res.ok (Flow.next, e.set i (some v)) s1) = _
      rw [f1]; rfl
    · simp [noSet]
  exc := fun {p p' e st Z o x v} E W h => by
    have h : ((evalP G c .sh p).bindX fun xs e1 => tone xs fun v => PR.ok PFlow.next (e1.set i (some v))) = .exc x v p' := h
    rcases PR.bindX_exc h with q1 | ⟨xs, p1, q1, h1⟩
    · obtain ⟨w, s1, f1, O⟩ := hc.exc E W q1
      refine ⟨w, s1, ?_, outx_s O⟩
      show ((evalE F c e st).bindX _) = _
      rw [f1]; rfl
    · obtain ⟨x, hx, h2⟩ := tone_exc h1
      cases h2
theorem setAll_ok {st : Store} {Z : Nat → Prop} : ∀ {is : List Nat} {vs : List Val} {qs : List PV} {e : Env} {p p1 : PEnv} {c o : Cn}, Reps st Z vs qs c → ER st Z e p o → psetAll is qs p = some p1 → ∃ e1 d, setAll is vs e = some e1 ∧ ER st Z e1 p1 d ∧ (∀ n, d n ≤ c n + o n) ∧ ∀ i, is.contains i = false → e1[i]? = e[i]?
  | [], vs, qs, e, p, p1, c, o, T, E, h => by
    cases T with
    | nil z => cases h; exact ⟨e, o, rfl, E, fun n => by omega, fun _ _ => rfl⟩
    | cons _ _ _ => cases h
  | j :: js, vs, qs, e, p, p1, c, o, T, E, h => by
    cases T with
    | nil z => cases h
    | @cons v q vs qs a b _ r t e1 =>
      obtain ⟨d, E2, hd⟩ := E.set j r
      obtain ⟨e2, d2, h1, E3, hd2, h3⟩ := setAll_ok (is := js) t E2 h
      refine ⟨e2, d2, h1, E3, fun n => by have := hd n; have := hd2 n; have := e1 n; omega, fun i hi => ?_⟩
      simp only [List.contains_cons, Bool.or_eq_false_iff] at hi
      rw [h3 i hi.2, List.getElem?_set_ne]
      intro z; subst z; simp at hi
theorem bindTo_ok {st : Store} {Z : Nat → Prop} {is : List Nat} {v : Val} {q : PV} {e : Env} {p p1 : PEnv} {c o : Cn} (R : Rep st Z v q c) (E : ER st Z e p o) (h : pbindTo is q p = some p1) : ∃ e1 d, bindTo is v e = some e1 ∧ ER st Z e1 p1 d ∧ (∀ n, d n ≤ c n + o n) ∧ ∀ i, is.contains i = false → e1[i]? = e[i]? := by
  have key : (∀ vs, bindTo is (.tup vs) e = setAll is vs e) → (∀ vs, pbindTo is (.tup vs) p = psetAll is vs p) → (∀ q, (∀ vs, q ≠ .tup vs) → pbindTo is q p = none) → ∃ e1 d, bindTo is v e = some e1 ∧ ER st Z e1 p1 d ∧ (∀ n, d n ≤ c n + o n) ∧ ∀ i, is.contains i = false → e1[i]? = e[i]? := fun h1 h2 h3 => by
    cases R with
    | @tup xs ps c t =>
      rw [h2] at h
      rw [h1]
      exact setAll_ok t E h
    | _ => rw [h3 _ (fun vs z => by cases z)] at h; cases h
  cases is with
  | nil => exact key (fun _ => rfl) (fun _ => rfl) fun q hq => by cases q <;> first | rfl | exact absurd rfl (hq _)
  | cons i is =>
    cases is with
    | nil =>
      cases h
      obtain ⟨d, E2, hd⟩ := E.set i R
      exact ⟨_, d, rfl, E2, hd, fun j hj => List.getElem?_set_ne (by intro z; subst z; simp at hj)⟩
    | cons j is => exact key (fun _ => rfl) (fun _ => rfl) fun q hq => by cases q <;> first | rfl | exact absurd rfl (hq _)
theorem ss_tset {is : List Nat} {c : CE} (hc : SP F G c) (lc : isL c = false) : SS F G (.tset is c) where
  ok := fun {p p' e st Z o f} E W h => by
    have h : ((evalP G c .sh p).bind fun xs e1 => tone xs fun v => (match v with
      | .tup vs => (match psetAll is vs e1 with | some e2 => PR.ok PFlow.next e2 | none => .stuck)
      | _ => .stuck)) = .ok f p' := h
    obtain ⟨xs, p1, q1, h1⟩ := PR.bind_ok h
    obtain ⟨x, hx, h2⟩ := tone_ok h1
    subst hx
    obtain ⟨r1, s1, Z1, a1, b1, f1, B1, E1, W1, G1⟩ := hc.one lc E W q1
    have R := B1.tmp1
    cases R with
    | @tup vs qs c t =>
      dsimp only at h2
      split at h2
      · rename_i p2 hp2
        cases h2
        obtain ⟨e2, d, g1, E2, hd, hsame⟩ := setAll_ok t E1 hp2
        refine ⟨.next, e2, s1, ?_, Z1, z0, d, .next fun _ => rfl, E2, W1.mono fun n => by have := hd n; simp; omega, (G1.weak fun n => by have := hd n; simp; omega).calmless, fun i hi => hsame i (by simpa [noSet] using hi)⟩
        show ((evalE F c e st).bind fun v s1 => match v with
          | .tup vs => (match setAll is vs e with | some env1 => Res.ok (Flow.next, env1) s1 | none => .stuck)
          | _ => .stuck) = _
        rw [f1]
        show (match setAll is vs e with | some env1 => Res.ok (Flow.next, env1) s1 | none => .stuck) = _
        rw [g1]
      · cases h2
    | _ => cases h2
  exc := fun {p p' e st Z o x v} E W h => by
    have h : ((evalP G c .sh p).bind fun xs e1 => tone xs fun v => (match v with
      | .tup vs => (match psetAll is vs e1 with | some e2 => PR.ok PFlow.next e2 | none => .stuck)
      | _ => .stuck)) = .exc x v p' := h
    obtain ⟨xs, p1, q1, h1⟩ := PR.bind_exc h
    obtain ⟨x, hx, h2⟩ := tone_exc h1
    split at h2
    · split at h2 <;> cases h2
    · cases h2
theorem ss_tpar {i j : Nat} {c : CE} (hc : SP F G c) (lc : isArgs c = true) : SS F G (.tpar i j c) where
  ok := fun {p p' e st Z o f} E W h => by
    have h : ((evalP G c .sh p).bind fun xs e1 => (match tvals xs with
      | some [x, y] => PR.ok PFlow.next ((e1.set i (some x)).set j (some y))
      | _ => .stuck)) = .ok f p' := h
    obtain ⟨xs, p1, q1, h1⟩ := PR.bind_ok h
    split at h1
    case h_2 => cases h1
    rename_i x y hxy
    cases h1
    obtain ⟨vs, s1, Z1, a1, b1, f1, B1, E1, W1, G1⟩ := hc.all (args_L lc) E W q1
    have T := tvals_ok B1 hxy
    cases T with
    | @cons v1 _ vs _ a2 b2 _ r1 t e1 =>
      cases t with
      | @cons v2 _ vs _ a3 b3 _ r2 t e2 =>
        cases t with
        | nil z =>
          obtain ⟨d, E2, hd⟩ := E1.set i r1
          obtain ⟨d2, E3, hd2⟩ := E2.set j r2
          refine ⟨.next, (e.set i (some v1)).set j (some v2), s1, ?_, Z1, z0, d2, .next fun _ => rfl, E3, W1.mono fun n => by have := hd n; have := hd2 n; have := e1 n; have := e2 n; simp; omega, (G1.weak fun n => by have := hd n; have := hd2 n; have := e1 n; have := e2 n; simp; omega).calmless, fun k hk => ?_⟩
          · show ((evalE F c e st).bind fun w s1 => match w with | .tup [x, y] => Res.ok (Flow.next, (e.set i (some x)).set j (some y)) s1 | _ => .stuck) = _
            rw [f1]; rfl
          · have hk : (!(decide (k = i) || decide (k = j))) = true := hk
            simp at hk
            rw [List.getElem?_set_ne (fun z => hk.2 z.symm), List.getElem?_set_ne (fun z => hk.1 z.symm)]
  exc := fun {p p' e st Z o x v} E W h => by
    have h : ((evalP G c .sh p).bind fun xs e1 => (match tvals xs with
      | some [x, y] => PR.ok PFlow.next ((e1.set i (some x)).set j (some y))
      | _ => .stuck)) = .exc x v p' := h
    obtain ⟨xs, p1, q1, h1⟩ := PR.bind_exc h
    split at h1 <;> cases h1
/-- o[i] = v, of one's own -/
theorem sub_ok {st : Store} {Z : Nat → Prop} {u y v : Val} {q q' i x : PV} {a b c : Cn} (R : Rep st Z u q a) (Y : Rep st Z y i b) (V : Rep st Z v x c) (W : Wf st Z fun n => c n + a n) (h : psub q i x = some q') :
    ∃ (n : Nat) (cl : Cell) (a' : Cn), subStore u y v st = .ok () (st.set n cl) ∧ 1 ≤ a n ∧ Rep (st.set n cl) Z u q' a' ∧ ∀ k, a' k ≤ c k + a k := by
  have fr : ∀ {n : Nat} {cl : Cell}, 1 ≤ a n → (∀ k, Z k → (st.set n cl)[k]? = st[k]?) := fun {n cl} hn k z => List.getElem?_set_ne fun e => by subst e; exact W.nz _ (by (try dsimp only); omega) z
  cases R with
  | @lstO n xs ps _ d h1 r hc =>
    cases Y with
    | int k =>
      have h : (L2.ixN ps.length k).map (fun j => PV.lst true (ps.set j x)) = some q' := h
      obtain ⟨j, hj, hq⟩ := map_some h
      subst hq
      have hn : 1 ≤ a n := by rw [hc, if_pos rfl]; omega
      have hnn : n < st.length := (List.getElem?_eq_some_iff.mp h1).1
      have hjl : j < ps.length := (L2.ixN_seq hj).2.1
      obtain ⟨w, a1, b1, g1, r1, g2, k2⟩ := r.at_ (i := j) (q := ps[j]) (List.getElem?_eq_getElem hjl)
      have hd0 : d n = 0 := by have := W.one n; have := hc n; rw [if_pos rfl] at this; (try dsimp only at *); omega
      have hc0 : c n = 0 := by have := W.one n; (try dsimp only at *); omega
      have kp : ∀ k, k ≠ n → (st.set n (.lst (xs.set j v)))[k]? = st[k]? := fun k hk => List.getElem?_set_ne (Ne.symm hk)
      have T := k2 (st.set n (.lst (xs.set j v))) Z v x c (fr hn) (fun m q => kp m (fun e => by subst e; have := g2 m; omega)) (fun _ z => z) (V.frame (fr hn) (fun _ z => z) fun m q => kp m (fun e => by subst e; omega))
      refine ⟨n, .lst (xs.set j v), fun k => (if k = n then 1 else 0) + (c k + b1 k), ?_, hn, .lstO (List.getElem?_set_self hnn) T fun k => rfl, fun k => by have := hc k; have := g2 k; (try dsimp only); omega⟩
      show (match st[n]? with
        | some (.lst xs) => (match L2.ixN xs.length k with | some j => Res.ok () (st.set n (.lst (xs.set j v))) | none => .stuck)
        | some (.dict kvs) => (match keyOf (.int k) with
          | some k => need (kvs.length < sizeLine) (Res.ok () (st.set n (.dict (putKV kvs k v))))
          | none => .stuck)
        | _ => .stuck) = _
      rw [h1]
      show (match L2.ixN xs.length k with | some j => Res.ok () (st.set n (.lst (xs.set j v))) | none => .stuck) = _
      rw [r.length, hj]
    | _ => cases h
  | @dictO n kvs ps _ d h1 r hc =>
    have h : (keyT i).bind (fun k => pneed ((kvs.map fun kv => nk kv.1).length < sizeLine) (PV.dict true (dputK (kvs.map fun kv => nk kv.1) k) (dputV (kvs.map fun kv => nk kv.1) ps k x))) = some q' := by
      cases i <;> exact h
    obtain ⟨k, hk, h2⟩ := bind_some h
    obtain ⟨hl, hq⟩ := pneed_of h2
    subst hq
    obtain ⟨k', hk1, rfl, _⟩ := keyT_of Y hk
    obtain ⟨j1, j2, d2, j3, j4⟩ := put_rel (k := k') V h1.2 r
    have hn : 1 ≤ a n := by rw [hc, if_pos rfl]; omega
    have hnn : n < st.length := (List.getElem?_eq_some_iff.mp h1.1).1
    have hd0 : d n = 0 := by have := W.one n; have := hc n; rw [if_pos rfl] at this; (try dsimp only at *); omega
    have hc0 : c n = 0 := by have := W.one n; (try dsimp only at *); omega
    have kp : ∀ k, k ≠ n → (st.set n (.dict (putKV kvs k' v)))[k]? = st[k]? := fun k hk => List.getElem?_set_ne (Ne.symm hk)
    refine ⟨n, .dict (putKV kvs k' v), fun k => (if k = n then 1 else 0) + d2 k, ?_, hn, ?_, fun k => by have := hc k; have := j4 k; (try dsimp only); omega⟩
    · unfold subStore
      dsimp only
      rw [h1.1]
      show (match keyOf y with
          | some k => need (kvs.length < sizeLine) (Res.ok () (st.set n (.dict (putKV kvs k v))))
          | none => .stuck) = _
      rw [hk1]
      exact if_pos (by rw [List.length_map] at hl; exact hl)
    · have := Rep.dictO (st := st.set n (.dict (putKV kvs k' v))) (Z := Z) (n := n) (c := fun k => (if k = n then 1 else 0) + d2 k) ⟨List.getElem?_set_self hnn, j2⟩ (j3.frame (fr hn) (fun _ z => z) fun m q => kp m (fun e => by subst e; have := j4 m; omega)) fun k => rfl
      rw [j1] at this
      exact this
  | _ => cases i <;> cases h
theorem ss_sub {oc ic ec : CE} (ho : SP F G oc) (hi : SP F G ic) (he : SP F G ec) (lo : isL oc = false) (li : isL ic = false) (le : isL ec = false) : SS F G (.sub oc ic ec) where
  ok := fun {p p' e st Z o f} E W h => by
    have h : ((evalP G ec .sh p).bind fun vs e1 => tone vs fun v => (evalP G oc .bo e1).bind fun xs e2 => one xs fun x => (evalP G ic .sh e2).bind fun ys e3 => tone ys fun y => (match x.pl with
      | some (r, p) => if p.isEmpty || calm G.io ic then (match getE e3 r p with
        | some c => (match psub c y v with
          | some c' => (match putE e3 r p c' with | some e4 => PR.ok PFlow.next e4 | none => .stuck)
          | none => .stuck)
        | none => .stuck) else .stuck
      | none => .stuck)) = .ok f p' := h
    obtain ⟨vs, p1, q1, h1⟩ := PR.bind_ok h
    obtain ⟨v, hv, h2⟩ := tone_ok h1
    subst hv
    obtain ⟨xs, p2, q2, h3⟩ := PR.bind_ok h2
    obtain ⟨x, hx, h4⟩ := one_ok h3
    subst hx
    obtain ⟨ys, p3, q3, h5⟩ := PR.bind_ok h4
    obtain ⟨y, hy, h6⟩ := tone_ok h5
    subst hy
    obtain ⟨xv, xpl⟩ := x
    cases xpl with
    | none => cases h6
    | some rp =>
      obtain ⟨r, pa⟩ := rp
      dsimp only at h6
      split at h6
      case isFalse => cases h6
      rename_i hcalm
      split at h6
      case h_2 => cases h6
      rename_i c hc
      split at h6
      case h_2 => cases h6
      rename_i c' hps
      obtain ⟨rV, s1, Z1, a1, b1, f1, B1, E1, W1, G1⟩ := he.one le E W q1
      obtain ⟨rO, s2, rI, s3, Z3, a3, b3, f2, f3, B3, E3, W3, G3⟩ := ho.two hi lo li E1 (W1.mono fun n => by (try dsimp only); omega) q2 q3 hcalm
      have RV := (B1.tmp1).keep W1 G3
      have Wt := W1.frame G3 W3
      obtain ⟨c1, c2, B4, B5, hc12⟩ := B3.pair
      cases B4 with
      | @pl _ rv _ _ _ _ _ _ g1 g2 t =>
        obtain ⟨rv', w', a4, b4, g3, g4, R4, g5, wand⟩ := E3.getE hc
        rw [g1] at g3; cases g3
        rw [g2] at g4; cases g4
        obtain ⟨n, cl, a', f4, hn, RC, hcnt⟩ := sub_ok R4 B5.tmp1 RV (Wt.mono fun n => by have := g5 n; (try dsimp only); omega) hps
        have hb4 : b4 n = 0 := by have := Wt.one n; have := g5 n; (try dsimp only at *); omega
        obtain ⟨p4, g6, E4⟩ := wand (s3.set n cl) Z3 c' a' (fun k z => List.getElem?_set_ne fun ee => by subst ee; exact Wt.nz _ (by have := g5 n; (try dsimp only); omega) z) (fun k q => List.getElem?_set_ne fun ee => by subst ee; omega) (fun _ z => z) RC
        rw [g6] at h6
        cases h6
        have hle : ∀ k, z0 k + (a' k + b4 k) ≤ a1 k + (a3 k + b3 k) := fun k => by have := hcnt k; have := g5 k; simp; omega
        refine ⟨.next, e, s3.set n cl, ?_, Z3, z0, fun k => a' k + b4 k, .next fun _ => rfl, E4, Wt.write hle, ?_, Same.refl⟩
        · show ((evalE F ec e st).bind fun v s1 => (evalE F oc e s1).bind fun x s2 => (evalE F ic e s2).bind fun y s3 => (subStore x y v s3).bind fun _ s4 => Res.ok (Flow.next, e) s4) = _
          rw [f1]
          show ((evalE F oc e s1).bind fun x s2 => (evalE F ic e s2).bind fun y s3 => (subStore x y rV s3).bind fun _ s4 => Res.ok (Flow.next, e) s4) = _
          rw [f2]
          show ((evalE F ic e s2).bind fun y s3 => (subStore rO y rV s3).bind fun _ s4 => Res.ok (Flow.next, e) s4) = _
          rw [f3]
          show ((subStore rO rI rV s3).bind fun _ s4 => Res.ok (Flow.next, e) s4) = _
          rw [f4]; rfl
        · have Gw : Go s3 Z3 (fun k => a1 k + (a3 k + b3 k)) false (s3.set n cl) Z3 fun k => z0 k + (a' k + b4 k) := Go.write (by have := g5 n; (try dsimp only); omega) hle
          exact ((G1.trans (G3.add (x := a1))).trans Gw).calmless
  exc := fun {p p' e st Z o x v} E W h => by
    have h : ((evalP G ec .sh p).bind fun vs e1 => tone vs fun v => (evalP G oc .bo e1).bind fun xs e2 => one xs fun x => (evalP G ic .sh e2).bind fun ys e3 => tone ys fun y => (match x.pl with
      | some (r, p) => if p.isEmpty || calm G.io ic then (match getE e3 r p with
        | some c => (match psub c y v with
          | some c' => (match putE e3 r p c' with | some e4 => PR.ok PFlow.next e4 | none => .stuck)
          | none => .stuck)
        | none => .stuck) else .stuck
      | none => .stuck)) = .exc x v p' := h
    obtain ⟨vs, p1, q1, h1⟩ := PR.bind_exc h
    obtain ⟨v, hv, h2⟩ := tone_exc h1
    obtain ⟨xs, p2, q2, h3⟩ := PR.bind_exc h2
    obtain ⟨x, hx, h4⟩ := one_exc h3
    obtain ⟨ys, p3, q3, h5⟩ := PR.bind_exc h4
    obtain ⟨y, hy, h6⟩ := tone_exc h5
    split at h6
    · split at h6
      · split at h6
        · split at h6
          · split at h6 <;> cases h6
          · cases h6
        · cases h6
      · cases h6
    · cases h6
end
end Ev

set_option Elab.async false
set_option linter.all false
set_option maxRecDepth 100000
set_option maxHeartbeats 1000000
namespace Ev
open PySem
section
variable {F : Fns} {G : PFns}
theorem ss_if {c : CE} {a b : CS} (hc : SP F G c) (lc : isL c = false) (ha : SS F G a) (hb : SS F G b) : SS F G (.if_ c a b) := by
  have hq : ∀ i, noSet i (.if_ c a b) = true → noSet i a = true ∧ noSet i b = true := fun i hi => Bool.and_eq_true_iff.mp hi
  have run : ∀ {e st r s1 t}, evalE F c e st = .ok r s1 → testV r s1 = .ok t s1 → evalS F (.if_ c a b) e st = if t = true then evalS F a e s1 else evalS F b e s1 := fun {e st r s1 t} f1 f2 => by
    show ((evalE F c e st).bind fun x s1 => (testV x s1).bind fun t s2 => if t = true then evalS F a e s2 else evalS F b e s2) = _
    rw [f1]
    show ((testV r s1).bind fun t s2 => if t = true then evalS F a e s2 else evalS F b e s2) = _
    rw [f2]; rfl
  refine ⟨fun {p p' e st Z o f} E W h => ?_, fun {p p' e st Z o x v} E W h => ?_⟩
  · have h : ((evalP G c .bo p).bind fun xs e1 => one xs fun x => (tests x e1).bind fun t e2 => if t = true then evalPS G a e2 else evalPS G b e2) = .ok f p' := h
    obtain ⟨xs, p1, q1, h1⟩ := PR.bind_ok h
    obtain ⟨x, hx, h2⟩ := one_ok h1
    subst hx
    obtain ⟨t, p2, q2, h3⟩ := PR.bind_ok h2
    obtain ⟨r1, s1, Z1, b1, f1, f2, E1, W1, G1⟩ := hc.test lc E W q1 q2
    rw [run f1 f2]
    cases t with
    | true =>
      obtain ⟨fl, e2, s2, g2, O2⟩ := ha.ok E1 W1 h3
      exact ⟨fl, e2, s2, g2, OutS.seq (a := z0) (G1.weak fun n => by simp).calmless Same.refl (O2.mono fun i hi => (hq i hi).1)⟩
    | false =>
      obtain ⟨fl, e2, s2, g2, O2⟩ := hb.ok E1 W1 h3
      exact ⟨fl, e2, s2, g2, OutS.seq (a := z0) (G1.weak fun n => by simp).calmless Same.refl (O2.mono fun i hi => (hq i hi).2)⟩
  · have h : ((evalP G c .bo p).bind fun xs e1 => one xs fun x => (tests x e1).bind fun t e2 => if t = true then evalPS G a e2 else evalPS G b e2) = .exc x v p' := h
    obtain ⟨xs, p1, q1, h1⟩ := PR.bind_exc h
    obtain ⟨x, hx, h2⟩ := one_exc h1
    subst hx
    obtain ⟨t, p2, q2, h3⟩ := PR.bind_exc h2
    obtain ⟨r1, s1, Z1, b1, f1, f2, E1, W1, G1⟩ := hc.test lc E W q1 q2
    rw [run f1 f2]
    cases t with
    | true =>
      obtain ⟨w, s2, g2, O2⟩ := ha.exc E1 W1 h3
      exact ⟨w, s2, g2, OutSX.seq (a := z0) (G1.weak fun n => by simp).calmless Same.refl (O2.mono fun i hi => (hq i hi).1)⟩
    | false =>
      obtain ⟨w, s2, g2, O2⟩ := hb.exc E1 W1 h3
      exact ⟨w, s2, g2, OutSX.seq (a := z0) (G1.weak fun n => by simp).calmless Same.refl (O2.mono fun i hi => (hq i hi).2)⟩
theorem ss_while (hF : PF F G) {c : CE} {a : CS} (hc : SP F G c) (lc : isL c = false) (ha : SS F G a) : SS F G (.while_ c a) := by
  have loop : ∀ (n : Nat) {p p' : PEnv} {e : Env} {st : Store} {Z : Nat → Prop} {o : Cn} {f : PFlow}, ER st Z e p o → Wf st Z o → whileP (fun env => (evalP G c .bo env).bind fun xs e1 => one xs fun x => tests x e1) (fun env => evalPS G a env) n p = .ok f p' →
      ∃ fl e' st', whileLoop (fun env s => (evalE F c env s).bind fun x s1 => testV x s1) (fun env s => evalS F a env s) n e st = .ok (fl, e') st' ∧ OutS st Z o e (fun i => noSet i a) st' fl f e' p' := by
    intro n
    induction n with
    | zero => intro p p' e st Z o f E W h; cases h
    | succ n ih =>
      intro p p' e st Z o f E W h
      have h : (((evalP G c .bo p).bind fun xs e1 => one xs fun x => tests x e1).bind fun t e1 => if t = true then ((evalPS G a e1).bind fun p e2 => match p with
        | .next => whileP (fun env => (evalP G c .bo env).bind fun xs e1 => one xs fun x => tests x e1) (fun env => evalPS G a env) n e2
        | .cont => whileP (fun env => (evalP G c .bo env).bind fun xs e1 => one xs fun x => tests x e1) (fun env => evalPS G a env) n e2
        | .brk => .ok .next e2
        | .ret v => .ok (.ret v) e2) else .ok .next e1) = .ok f p' := h
      obtain ⟨t, p1, q1, h1⟩ := PR.bind_ok h
      obtain ⟨xs, p0, q0, q2⟩ := PR.bind_ok q1
      obtain ⟨x, hx, q3⟩ := one_ok q2
      subst hx
      obtain ⟨r1, s1, Z1, b1, f1, f2, E1, W1, G1⟩ := hc.test lc E W q0 q3
      have hw : whileLoop (fun env s => (evalE F c env s).bind fun x s1 => testV x s1) (fun env s => evalS F a env s) (n + 1) e st = if t = true then ((evalS F a e s1).bind fun p s2 => match p.1 with
          | .next => whileLoop (fun env s => (evalE F c env s).bind fun x s1 => testV x s1) (fun env s => evalS F a env s) n p.2 s2
          | .cont => whileLoop (fun env s => (evalE F c env s).bind fun x s1 => testV x s1) (fun env s => evalS F a env s) n p.2 s2
          | .brk => .ok (.next, p.2) s2
          | .ret v => .ok (.ret v, p.2) s2) else .ok (.next, e) s1 := by
        show (((evalE F c e st).bind fun x s1 => testV x s1).bind _) = _
        rw [f1]
        show ((testV r1 s1).bind _) = _
        rw [f2]; rfl
      rw [hw]
      cases t with
      | false =>
        cases h1
        exact ⟨.next, e, s1, rfl, Z1, z0, b1, .next fun _ => rfl, E1, W1.mono fun n => by simp, (G1.weak fun n => by simp).calmless, Same.refl⟩
      | true =>
        obtain ⟨f1', p2, q4, h2⟩ := PR.bind_ok h1
        obtain ⟨fl, e2, s2, g1, Z2, a2, b2, R2, E2, W2, G2, S2⟩ := ha.ok E1 W1 q4
        have G12 : Go st Z o false s2 Z2 fun n => a2 n + b2 n := (G1.calmless).transF G2
        rw [if_pos rfl, g1]
        cases R2 with
        | next z =>
          obtain ⟨fl, e3, s3, g3, O3⟩ := ih E2 (W2.mono fun n => by (try dsimp only); omega) h2
          exact ⟨fl, e3, s3, g3, OutS.seq G12 S2 O3⟩
        | cont z =>
          obtain ⟨fl, e3, s3, g3, O3⟩ := ih E2 (W2.mono fun n => by (try dsimp only); omega) h2
          exact ⟨fl, e3, s3, g3, OutS.seq G12 S2 O3⟩
        | brk z =>
          cases h2
          exact ⟨.next, e2, s2, rfl, Z2, a2, b2, .next z, E2, W2, G12, S2⟩
        | ret z =>
          cases h2
          exact ⟨_, e2, s2, rfl, Z2, a2, b2, .ret z, E2, W2, G12, S2⟩
  have nx : ∀ (n : Nat) {p p' : PEnv} {x : Str} {v : PV}, whileP (fun env => (evalP G c .bo env).bind fun xs e1 => one xs fun x => tests x e1) (fun env => evalPS G a env) n p = .exc x v p' → False := by
    intro n
    induction n with
    | zero => intro p p' x v h; cases h
    | succ n ih =>
      intro p p' x v h
      obtain ⟨t, p1, q1, h1⟩ := PR.bind_exc h
      split at h1
      · obtain ⟨f, p2, q2, h2⟩ := PR.bind_exc h1
        cases f with
        | next => exact ih h2
        | cont => exact ih h2
        | brk => cases h2
        | ret v => cases h2
      · cases h1
  refine ⟨fun {p p' e st Z o f} E W h => ?_, fun {p p' e st Z o x v} E W h => ?_⟩
  · obtain ⟨fl, e', st', g1, O⟩ := loop G.fuel E W h
    refine ⟨fl, e', st', ?_, O⟩
    show whileLoop _ _ F.fuel e st = _
    rw [hF.fuel]; exact g1
  · exact (nx G.fuel h).elim
theorem ss_for {k : Src} {is : List Nat} {src : CE} {a : CS} (hs : SP F G src) (ls : match k with | .range => isArgs src = true | .seq => isL src = false) (ha : SS F G a) : SS F G (.for_ k is src a) := by
  have hq : ∀ i, noSet i (.for_ k is src a) = true → is.contains i = false ∧ noSet i a = true := fun i hi => by
    have hi : (!is.contains i && noSet i a) = true := hi
    rw [Bool.and_eq_true] at hi
    exact ⟨by simpa using hi.1, hi.2⟩
  have loop : ∀ {ok : Store → Prop} {st0 : Store} {Z0 : Nat → Prop} (hok : ∀ st2 : Store, (∀ n, Z0 n → st2[n]? = st0[n]?) → ok st2) (xs : List PV) {vs : List Val} {p : PEnv} {e : Env} {st : Store} {Z : Nat → Prop} {o : Cn}, Reps st Z vs xs z0 → ER st Z e p o → Wf st Z o → (∀ n, Z0 n → Z n ∧ st[n]? = st0[n]?) →
      (∀ {f p'}, forP is (fun env => evalPS G a env) xs p = .ok f p' → ∃ fl e' st', forLoop is ok (fun env s => evalS F a env s) vs e st = .ok (fl, e') st' ∧ OutS st Z o e (fun i => noSet i (.for_ k is src a)) st' fl f e' p') ∧
      (∀ {x v p'}, forP is (fun env => evalPS G a env) xs p = .exc x v p' → ∃ w st', forLoop is ok (fun env s => evalS F a env s) vs e st = .exc x w st' ∧ OutSX st Z o e (fun i => noSet i (.for_ k is src a)) st' w v p') := by
    intro ok st0 Z0 hok xs
    induction xs with
    | nil =>
      intro vs p e st Z o T E W hz
      cases T with
      | nil _ =>
        refine ⟨fun {f p'} h => ?_, fun {x v p'} h => (by cases h)⟩
        cases h
        refine ⟨.next, e, st, ?_, Z, z0, o, .next fun _ => rfl, E, W.mono fun n => by simp, Go.refl fun n => by simp, Same.refl⟩
        simp only [forLoop]
        rw [if_pos (hok st fun n z => (hz n z).2)]
    | cons x xs ih =>
      intro vs p e st Z o T E W hz
      cases T with
      | @cons v _ vs _ a1 b1 c1 r t e1 =>
        have r0 : Rep st Z v x z0 := r.cong fun n => by have := e1 n; simp at this ⊢; omega
        have t0 : Reps st Z vs xs z0 := t.cong fun n => by have := e1 n; simp at this ⊢; omega
        have un : forP is (fun env => evalPS G a env) (x :: xs) p = (match pbindTo is x p with
          | some env1 => (evalPS G a env1).bindX fun p e2 => (match p with
            | .next => forP is (fun env => evalPS G a env) xs e2
            | .cont => forP is (fun env => evalPS G a env) xs e2
            | .brk => .ok .next e2
            | .ret v => .ok (.ret v) e2)
          | none => .stuck) := rfl
        rw [un]
        cases hb : pbindTo is x p with
        | none => exact ⟨fun {_ _} h => (by cases h), fun {_ _ _} h => (by cases h)⟩
        | some p1 =>
          obtain ⟨e2, d, g1, E2, hd, hsame⟩ := bindTo_ok r0 E hb
          have W2 : Wf st Z d := W.mono fun n => by have := hd n; simp at this; omega
          have Gd : ∀ {st1 Z1 c1}, Go st Z d false st1 Z1 c1 → Go st Z o false st1 Z1 c1 := fun g => g.wide fun n => by have := hd n; simp at this; omega
          have S0 : Same (fun i => noSet i (.for_ k is src a)) e e2 := fun i hi => hsame i (hq i hi).1
          have run : forLoop is ok (fun env s => evalS F a env s) (v :: vs) e st = (evalS F a e2 st).bindX fun p s2 => (match p.1 with
            | .next => forLoop is ok (fun env s => evalS F a env s) vs p.2 s2
            | .cont => forLoop is ok (fun env s => evalS F a env s) vs p.2 s2
            | .brk => .ok (.next, p.2) s2
            | .ret v => .ok (.ret v, p.2) s2) := by
            simp only [forLoop]
            rw [if_pos (hok st fun n z => (hz n z).2), g1]
            try rfl
          rw [run]
          have step : ∀ {f1 p2}, evalPS G a p1 = .ok f1 p2 → ∃ fl e3 s3 Z3 a3 b3, evalS F a e2 st = .ok (fl, e3) s3 ∧ FlowR s3 Z3 fl f1 a3 ∧ ER s3 Z3 e3 p2 b3 ∧ Wf s3 Z3 (fun n => a3 n + b3 n) ∧ Go st Z o false s3 Z3 (fun n => a3 n + b3 n) ∧ Same (fun i => noSet i (.for_ k is src a)) e e3 ∧ Reps s3 Z3 vs xs z0 ∧ ∀ n, Z0 n → Z3 n ∧ s3[n]? = st0[n]? := fun {f1 p2} q => by
            obtain ⟨fl, e3, s3, g3, Z3, a3, b3, R3, E3, W3, G3, S3⟩ := ha.ok E2 W2 q
            refine ⟨fl, e3, s3, Z3, a3, b3, g3, R3, E3, W3, Gd G3, S0.trans fun i hi => S3 i (hq i hi).2, t0.keep (c := d) (W2.mono fun n => by simp) G3, fun n z => ⟨G3.zz n (hz n z).1, ?_⟩⟩
            rw [G3.keep n (W.zl n (hz n z).1) (.inr (by cases q : d n with | zero => rfl | succ j => exact absurd (hz n z).1 (W2.nz n (by omega))))]
            exact (hz n z).2
          refine ⟨fun {f p'} h => ?_, fun {y u p'} h => ?_⟩
          · obtain ⟨f1, p2, q1, h2⟩ := PR.bindX_ok h
            obtain ⟨fl, e3, s3, Z3, a3, b3, g3, R3, E3, W3, G3, S3, T3, hz3⟩ := step q1
            rw [g3]
            cases R3 with
            | next z =>
              obtain ⟨fl, e4, s4, g4, O4⟩ := (ih T3 E3 (W3.mono fun n => by (try dsimp only); omega) hz3).1 h2
              exact ⟨fl, e4, s4, g4, OutS.seq G3 S3 O4⟩
            | cont z =>
              obtain ⟨fl, e4, s4, g4, O4⟩ := (ih T3 E3 (W3.mono fun n => by (try dsimp only); omega) hz3).1 h2
              exact ⟨fl, e4, s4, g4, OutS.seq G3 S3 O4⟩
            | brk z =>
              cases h2
              exact ⟨.next, e3, s3, rfl, Z3, a3, b3, .next z, E3, W3, G3, S3⟩
            | ret z =>
              cases h2
              exact ⟨_, e3, s3, rfl, Z3, a3, b3, .ret z, E3, W3, G3, S3⟩
          · rcases PR.bindX_exc h with q1 | ⟨f1, p2, q1, h2⟩
            · obtain ⟨w, s3, g3, Z3, b3, e3, R3, nn, E3, W3, G3, S3⟩ := ha.exc E2 W2 q1
              refine ⟨w, s3, by rw [g3]; rfl, Z3, b3, e3, R3, nn, E3, W3, Gd G3, S0.trans fun i hi => S3 i (hq i hi).2⟩
            · obtain ⟨fl, e3, s3, Z3, a3, b3, g3, R3, E3, W3, G3, S3, T3, hz3⟩ := step q1
              rw [g3]
              cases R3 with
              | next z =>
                obtain ⟨w, s4, g4, O4⟩ := (ih T3 E3 (W3.mono fun n => by (try dsimp only); omega) hz3).2 h2
                exact ⟨w, s4, g4, OutSX.seq G3 S3 O4⟩
              | cont z =>
                obtain ⟨w, s4, g4, O4⟩ := (ih T3 E3 (W3.mono fun n => by (try dsimp only); omega) hz3).2 h2
                exact ⟨w, s4, g4, OutSX.seq G3 S3 O4⟩
              | brk z => cases h2
              | ret z => cases h2
  have pre : ∀ {p p1 : PEnv} {e : Env} {st : Store} {Z : Nat → Prop} {o : Cn} {ws : List BV} {xs : List PV}, ER st Z e p o → Wf st Z o → evalP G src .sh p = .ok ws p1 → srcP k ws = some xs → ∃ (s1 : Store) (Z2 : Nat → Prop) (b1 : Cn) (vs : List Val) (r : Val), evalS F (.for_ k is src a) e st = forLoop is (stays k r vs) (fun env s => evalS F a env s) vs e s1 ∧ Reps s1 Z2 vs xs z0 ∧ ER s1 Z2 e p1 b1 ∧ Wf s1 Z2 b1 ∧ Go st Z o false s1 Z2 b1 ∧ (∀ st2 : Store, (∀ n, Z2 n → st2[n]? = s1[n]?) → stays k r vs st2) := fun {p p1 e st Z o ws xs} E W q1 hit => by
    obtain ⟨r, s1, vs0, f1, hw, Z1, a1, b1, B1, E1, W1, G1⟩ := hs.ok E W q1
    obtain ⟨Z2, vs, S⟩ := src_ok (k := k) (v := r) B1 E1 W1 (by
      cases k with
      | range => exact wrap1 (args_L ls) hw
      | seq => exact wrap0 ls hw) hit
    refine ⟨s1, Z2, b1, vs, r, ?_, S.rep, S.er, S.wf, ⟨G1.len, fun n hn q => G1.keep n hn (.inr (q.elim (fun z => by cases z) id)), fun n z => S.zz n (G1.zz n z), fun n hn z => ?_, fun n hn q => G1.on n hn (by (try dsimp only); omega)⟩, S.stay⟩
    · show ((evalE F src e st).bind fun v s1 => match srcItems k v s1 with
        | some xs => forLoop is (stays k v xs) (fun env s => evalS F a env s) xs e s1
        | none => .stuck) = _
      rw [f1]
      show (match srcItems k r s1 with
        | some xs => forLoop is (stays k r xs) (fun env s => evalS F a env s) xs e s1
        | none => .stuck) = _
      rw [S.it]
    · rcases S.zn n z with z | z
      · exact G1.zn n hn z
      · exact .inr (G1.on n hn (by (try dsimp only); omega))
  refine ⟨fun {p p' e st Z o f} E W h => ?_, fun {p p' e st Z o x v} E W h => ?_⟩
  · have h : ((evalP G src .sh p).bind fun vs e1 => (match srcP k vs with
      | some xs => forP is (fun env => evalPS G a env) xs e1
      | none => .stuck)) = .ok f p' := h
    obtain ⟨ws, p1, q1, h1⟩ := PR.bind_ok h
    split at h1
    case h_2 => cases h1
    rename_i xs hit
    obtain ⟨s1, Z2, b1, vs, r, run, T, E1, W1, G1, hst⟩ := pre E W q1 hit
    obtain ⟨fl, e', st', g1, O⟩ := (loop hst xs T E1 W1 fun n z => ⟨z, rfl⟩).1 h1
    exact ⟨fl, e', st', by rw [run]; exact g1, OutS.seq (a := z0) (G1.weak fun n => by simp) Same.refl O⟩
  · have h : ((evalP G src .sh p).bind fun vs e1 => (match srcP k vs with
      | some xs => forP is (fun env => evalPS G a env) xs e1
      | none => .stuck)) = .exc x v p' := h
    obtain ⟨ws, p1, q1, h1⟩ := PR.bind_exc h
    split at h1
    case h_2 => cases h1
    rename_i xs hit
    obtain ⟨s1, Z2, b1, vs, r, run, T, E1, W1, G1, hst⟩ := pre E W q1 hit
    obtain ⟨w, st', g1, O⟩ := (loop hst xs T E1 W1 fun n z => ⟨z, rfl⟩).2 h1
    exact ⟨w, st', by rw [run]; exact g1, OutSX.seq (a := z0) (G1.weak fun n => by simp) Same.refl O⟩
theorem ss_raise0 (hF : PF F G) {x : Str} : SS F G (.raise0 x) where
  ok := fun {p p' e st Z o f} E W h => by
    have h : (if x ∈ exc0 ∧ G.fuel % 2 = 1 then PR.exc x .none p else .stuck) = .ok f p' := h
    split at h <;> cases h
  exc := fun {p p' e st Z o y v} E W h => by
    have h : (if x ∈ exc0 ∧ G.fuel % 2 = 1 then PR.exc x .none p else .stuck) = .exc y v p' := h
    split at h
    · rename_i hx
      cases h
      refine ⟨.none, st, ?_, Z, o, e, .none fun _ => rfl, ⟨rfl, rfl⟩, E, W, Go.refl fun n => Nat.le_refl _, Same.refl⟩
      show (if x ∈ exc0 ∧ F.fuel % 2 = 1 then Res.exc x .none st else .stuck) = _
      rw [if_pos ⟨hx.1, by rw [hF.fuel]; exact hx.2⟩]
    · cases h
theorem ss_raise1 (hF : PF F G) {x : Str} {c : CE} (hc : SP F G c) (lc : isL c = false) : SS F G (.raise1 x c) where
  ok := fun {p p' e st Z o f} E W h => by
    have h : (if x = "Over" ∧ G.fuel % 2 = 1 then (evalP G c .sh p).bind fun xs e1 => tone xs fun v => if v.noO = true ∧ v.noF = true then PR.exc x v e1 else .stuck else .stuck) = .ok f p' := h
    split at h
    · obtain ⟨xs, p1, q1, h1⟩ := PR.bind_ok h
      obtain ⟨v, hx, h2⟩ := tone_ok h1
      split at h2 <;> cases h2
    · cases h
  exc := fun {p p' e st Z o y v} E W h => by
    have h : (if x = "Over" ∧ G.fuel % 2 = 1 then (evalP G c .sh p).bind fun xs e1 => tone xs fun v => if v.noO = true ∧ v.noF = true then PR.exc x v e1 else .stuck else .stuck) = .exc y v p' := h
    split at h
    · rename_i hx
      obtain ⟨xs, p1, q1, h1⟩ := PR.bind_exc h
      obtain ⟨v, hv, h2⟩ := tone_exc h1
      subst hv
      split at h2
      · rename_i nn
        cases h2
        obtain ⟨r1, s1, Z1, a1, b1, f1, B1, E1, W1, G1⟩ := hc.one lc E W q1
        refine ⟨r1, s1, ?_, Z1, b1, e, B1.tmp1.z nn.1, nn, E1, W1.mono fun n => by (try dsimp only); omega, (G1.weak fun n => by (try dsimp only); omega).calmless, Same.refl⟩
        show (if x = "Over" ∧ F.fuel % 2 = 1 then (evalE F c e st).bind fun v s1 => Res.exc x v s1 else .stuck) = _
        rw [if_pos ⟨hx.1, by rw [hF.fuel]; exact hx.2⟩, f1]; rfl
      · cases h2
    · cases h
theorem ss_tryc (hF : PF F G) {i n j : Nat} {x : Str} {c : CE} (hc : SP F G c) (lc : isL c = false) : SS F G (.tryc i c x n j) where
  ok := fun {p p' e st Z o f} E W h => by
    have h : (if x = "ScoreError" ∧ G.fuel % 2 = 1 then (match evalP G c .sh p with
      | .ok xs e1 => tone xs fun v => PR.ok PFlow.next (e1.set i (some v))
      | .exc c v e1 => .ok .next ((e1.set j (some (PV.obj true c ((excFs c Val.none).map fun z : Str × Val => z.1) (if c = "Over" then [v] else [])))).set n none)
      | .stuck => .stuck) else .stuck) = .ok f p' := h
    split at h
    case isFalse => cases h
    rename_i hx
    have hq : ∀ k, noSet k (.tryc i c x n j) = true → k ≠ i ∧ k ≠ n ∧ k ≠ j := fun k hk => by
      have hk : (!(decide (k = i) || (decide (k = n) || decide (k = j)))) = true := hk
      simpa using hk
    have run : ∀ r, evalE F c e st = r → evalS F (.tryc i c x n j) e st = (match r with
      | .ok v s1 => .ok (.next, e.set i (some v)) s1
      | .exc c v s1 => .ok (.next, (e.set j (some (.ref s1.length))).set n none) (s1 ++ [.inst c (excFs c v)])
      | .stuck => .stuck) := fun r hr => by
      show (if x = "ScoreError" ∧ F.fuel % 2 = 1 then _ else _) = _
      rw [if_pos ⟨hx.1, by rw [hF.fuel]; exact hx.2⟩, hr]; try rfl
    split at h
    · rename_i xs p1 q1
      obtain ⟨v, hv, h2⟩ := tone_ok h
      subst hv
      cases h2
      obtain ⟨r1, s1, Z1, a1, b1, f1, B1, E1, W1, G1⟩ := hc.one lc E W q1
      obtain ⟨d, E2, hd⟩ := E1.set i B1.tmp1
      refine ⟨.next, e.set i (some r1), s1, run _ f1, Z1, z0, d, .next fun _ => rfl, E2, W1.mono fun n => by have := hd n; simp; omega, (G1.weak fun n => by have := hd n; simp; omega).calmless, fun k hk => List.getElem?_set_ne (fun z => (hq k hk).1 z.symm)⟩
    · rename_i cl v p1 q1
      cases h
      obtain ⟨w, s1, f1, Z1, b1, R1, nn, E1, W1, G1⟩ := hc.exc E W q1
      have kp : ∀ k, k < s1.length → (s1 ++ [Cell.inst cl (excFs cl w)])[k]? = s1[k]? := fun k hk => List.getElem?_append_left hk
      have E2 : ER (s1 ++ [Cell.inst cl (excFs cl w)]) Z1 e p1 b1 := E1.frame (fun n z => kp n (W1.zl n z)) (fun _ z => z) fun n q => kp n (W1.lt n q)
      have R2 : Rep (s1 ++ [Cell.inst cl (excFs cl w)]) Z1 w v z0 := R1.frame (fun n z => kp n (W1.zl n z)) (fun _ z => z) fun n q => by simp at q
      have RO : Rep (s1 ++ [Cell.inst cl (excFs cl w)]) Z1 (.ref s1.length) (.obj true cl ((excFs cl .none).map (·.1)) (if cl = "Over" then [v] else [])) fun n => if n = s1.length then 1 else 0 := by
        have hns : (excFs cl .none).map (·.1) = (excFs cl w).map (·.1) := by unfold excFs; split <;> rfl
        rw [hns]
        have hrep : Reps (s1 ++ [Cell.inst cl (excFs cl w)]) Z1 ((excFs cl w).map (·.2)) (if cl = "Over" then [v] else []) z0 := by
          generalize s1 ++ [Cell.inst cl (excFs cl w)] = S at R2
          unfold excFs
          split
          · exact Reps.one R2
          · exact .nil fun _ => rfl
        exact .objO (d := z0) (by simp) hrep fun n => by simp
      obtain ⟨d, E3, hd⟩ := E2.set j RO
      obtain ⟨d2, E4, hd2⟩ := E3.forget n none
      have Wa : Wf (s1 ++ [Cell.inst cl (excFs cl w)]) Z1 fun k => (if k = s1.length then 1 else 0) + b1 k := W1.alloc
      have Ga : Go s1 Z1 b1 true (s1 ++ [Cell.inst cl (excFs cl w)]) Z1 fun k => (if k = s1.length then 1 else 0) + b1 k := Go.alloc W1
      refine ⟨.next, (e.set j (some (.ref s1.length))).set n none, s1 ++ [Cell.inst cl (excFs cl w)], run _ f1, Z1, z0, d2, .next fun _ => rfl, E4, Wa.mono fun k => by have := hd k; have := hd2 k; (try dsimp only at *); simp; omega, ((G1.trans Ga).weak fun k => by have := hd k; have := hd2 k; (try dsimp only at *); simp; omega).calmless, fun k hk => ?_⟩
      rw [List.getElem?_set_ne (fun z => (hq k hk).2.1 z.symm), List.getElem?_set_ne (fun z => (hq k hk).2.2 z.symm)]
    · cases h
  exc := fun {p p' e st Z o y v} E W h => by
    have h : (if x = "ScoreError" ∧ G.fuel % 2 = 1 then (match evalP G c .sh p with
      | .ok xs e1 => tone xs fun v => PR.ok PFlow.next (e1.set i (some v))
      | .exc c v e1 => .ok .next ((e1.set j (some (PV.obj true c ((excFs c Val.none).map fun z : Str × Val => z.1) (if c = "Over" then [v] else [])))).set n none)
      | .stuck => .stuck) else .stuck) = .exc y v p' := h
    split at h
    · split at h
      · obtain ⟨v, hv, h2⟩ := tone_exc h
        cases h2
      · cases h
      · cases h
    · cases h
theorem ss_all (hF : PF F G) : ∀ c : CS, wfS c = true → SS F G c := by
  have sp := sp_all hF
  intro c
  induction c with
  | skip => exact fun _ => ss_flow (fl := .next) (f := .next) (fun _ _ => rfl) (fun _ => rfl) fun _ _ => .next fun _ => rfl
  | seq s r is ir => intro h; have h := Bool.and_eq_true_iff.mp h; exact ss_seq (is h.1) (ir h.2)
  | expr e => intro h; have h := nlw h; exact ss_expr (sp _ h.2) h.1
  | ret e => intro h; have h := nlw h; exact ss_ret (sp _ h.2) h.1
  | retN => exact fun _ => ss_flow (fl := .ret .none) (f := .ret .none) (fun _ _ => rfl) (fun _ => rfl) fun _ _ => .ret (.none fun _ => rfl)
  | pass => exact fun _ => ss_flow (fl := .next) (f := .next) (fun _ _ => rfl) (fun _ => rfl) fun _ _ => .next fun _ => rfl
  | brk => exact fun _ => ss_flow (fl := .brk) (f := .brk) (fun _ _ => rfl) (fun _ => rfl) fun _ _ => .brk fun _ => rfl
  | cont => exact fun _ => ss_flow (fl := .cont) (f := .cont) (fun _ _ => rfl) (fun _ => rfl) fun _ _ => .cont fun _ => rfl
  | set i e => intro h; have h := nlw h; exact ss_set (sp _ h.2) h.1
  | tset is e => intro h; have h := nlw h; exact ss_tset (sp _ h.2) h.1
  | tpar i j e => intro h; have h := alw h; exact ss_tpar (sp _ h.2) h.1
  | sub o i e =>
    intro h
    have h := Bool.and_eq_true_iff.mp h
    have h2 := Bool.and_eq_true_iff.mp h.2
    exact ss_sub (sp _ (nlw h.1).2) (sp _ (nlw h2.1).2) (sp _ (nlw h2.2).2) (nlw h.1).1 (nlw h2.1).1 (nlw h2.2).1
  | if_ c a b ia ib =>
    intro h
    have h := Bool.and_eq_true_iff.mp h
    have h2 := Bool.and_eq_true_iff.mp h.2
    exact ss_if (sp _ (nlw h.1).2) (nlw h.1).1 (ia h2.1) (ib h2.2)
  | while_ c a ia => intro h; have h := Bool.and_eq_true_iff.mp h; exact ss_while hF (sp _ (nlw h.1).2) (nlw h.1).1 (ia h.2)
  | for_ k is src a ia =>
    intro h
    cases k with
    | range =>
      have h : ((isArgs src && wfE src) && wfS a) = true := h
      have h := Bool.and_eq_true_iff.mp h
      exact ss_for (sp _ (alw h.1).2) (alw h.1).1 (ia h.2)
    | seq =>
      have h : ((!isL src && wfE src) && wfS a) = true := h
      have h := Bool.and_eq_true_iff.mp h
      exact ss_for (sp _ (nlw h.1).2) (nlw h.1).1 (ia h.2)
  | never => exact fun _ => ⟨fun {_ _ _ _ _ _ _} _ _ h => (by cases h), fun {_ _ _ _ _ _ _ _} _ _ h => (by cases h)⟩
  | raise0 x => exact fun _ => ss_raise0 hF
  | raise1 x e => intro h; have h := nlw h; exact ss_raise1 hF (sp _ h.2) h.1
  | tryc i e x n j => intro h; have h := nlw h; exact ss_tryc hF (sp _ h.2) h.1
end
/-! ### functions -/
section
variable {T : Tab} {gl : Str → Option Val} {gp : Str → Option PV} {io : Str → List Bool} {W : Nat}
theorem start_ok {st : Store} {Z : Nat → Prop} : ∀ {vs : List Val} {qs : List PV} {c : Cn} (k : Nat), Reps st Z vs qs c → ER st Z (vs.map some ++ List.replicate k none) (qs.map some ++ List.replicate k none) c
  | _, _, _, k, .nil z => by
    show ER st Z (List.replicate k none) (List.replicate k none) _
    induction k with
    | zero => exact .nil z
    | succ k ih => exact .hole ih
  | _, _, _, k, .cons r t e => .val r (start_ok k t) e
theorem outs_ok {st : Store} {Z : Nat → Prop} : ∀ {ms : List Bool} {vs : List Val} {e : Env} {p : PEnv} {os : List PV} {c : Cn}, ER st Z e p c → outsOf ms p = some os → ms.length ≤ vs.length → (∀ (i : Nat) (v : Val), ms[i]? = some true → vs[i]? = some v → e[i]? = some (some v)) → ∃ b, Reps st Z (iosel ms vs) os b ∧ ∀ n, b n ≤ c n
  | [], vs, e, p, os, c, E, h, hl, hk => by
    cases p <;> cases h <;> (cases vs <;> exact ⟨z0, .nil fun _ => rfl, fun n => Nat.zero_le _⟩)
  | true :: ms, [], e, p, os, c, E, h, hl, hk => by simp at hl
  | false :: ms, [], e, p, os, c, E, h, hl, hk => by simp at hl
  | true :: ms, v :: vs, e, p, os, c, E, h, hl, hk => by
    cases E with
    | nil z => cases h
    | hole E2 => cases h
    | @val w q e p a b _ r E2 z =>
      have h : (outsOf ms p).map (q :: ·) = some os := h
      obtain ⟨os2, h1, h2⟩ := map_some h
      subst h2
      have := hk 0 v rfl rfl
      simp at this; subst this
      obtain ⟨b2, h3, h4⟩ := outs_ok (ms := ms) (vs := vs) E2 h1 (by simpa using hl) fun i v h5 h6 => by
        have := hk (i + 1) v (by simpa using h5) (by simpa using h6)
        simpa using this
      exact ⟨fun n => a n + b2 n, .cons r h3 fun n => rfl, fun n => by have := h4 n; have := z n; (try dsimp only); omega⟩
  | false :: ms, v :: vs, e, p, os, c, E, h, hl, hk => by
    have step : ∀ {e2 p2 c2 x y}, e = x :: e2 → p = y :: p2 → ER st Z e2 p2 c2 → outsOf ms p2 = some os → (∀ n, c2 n ≤ c n) → ∃ b, Reps st Z (iosel ms vs) os b ∧ ∀ n, b n ≤ c n := fun {e2 p2 c2 x y} h1 h2 E2 h3 h4 => by
      subst h1 h2
      obtain ⟨b2, h5, h6⟩ := outs_ok (ms := ms) (vs := vs) E2 h3 (by simpa using hl) fun i v h7 h8 => by
        have := hk (i + 1) v (by simpa using h7) (by simpa using h8)
        simpa using this
      exact ⟨b2, h5, fun n => Nat.le_trans (h6 n) (h4 n)⟩
    cases E with
    | nil z => cases h
    | hole E2 => exact step rfl rfl E2 h fun n => Nat.le_refl _
    | val r E2 z => exact step rfl rfl E2 h fun n => by have := z n; omega
theorem ioSet_ok : ∀ {ms : List Bool} {i : Nat} {b : CS}, ioSet i ms b = true → ∀ j, ms[j]? = some true → noSet (i + j) b = true
  | [], i, b, h, j, hj => by simp at hj
  | true :: ms, i, b, h, j, hj => by
    have h : (noSet i b && ioSet (i + 1) ms b) = true := h
    rw [Bool.and_eq_true] at h
    cases j with
    | zero => exact h.1
    | succ j =>
      have := ioSet_ok h.2 j (by simpa using hj)
      rwa [Nat.add_right_comm] at this
  | false :: ms, i, b, h, j, hj => by
    cases j with
    | zero => simp at hj
    | succ j =>
      have := ioSet_ok (ms := ms) (i := i + 1) h j (by simpa using hj)
      rwa [Nat.add_right_comm] at this
theorem fns_pure (hg : ∀ x v, gp x = some v → ∃ w, gl x = some w ∧ ∀ st Z, Rep st Z w v z0) (hw : ∀ f d, T.lookup f = some d → wfS d.body = true) : ∀ n : Nat, PF ⟨callN T gl W n, gl, W, hasN T n⟩ ⟨callP T gp io W n, gp, W, hasN T n, io⟩ := by
  intro n
  induction n with
  | zero => exact ⟨rfl, fun _ => rfl, hg, fun f pargs vargs st Z c _ _ _ => trivial⟩
  | succ n ih =>
    refine ⟨rfl, fun _ => rfl, hg, fun f pargs vargs st Z c A Wc hio => ?_⟩
    show FnR _ (io f) f (callP T gp io W (n + 1) f pargs) vargs st Z c
    have e1 : callP T gp io W (n + 1) f pargs = (match T.lookup f with
      | some d => finP (canB T f) (runP ⟨callP T gp io W n, gp, W, hasN T n, io⟩ (io f) d pargs)
      | none => .stuck) := rfl
    rw [e1]
    cases hl : T.lookup f with
    | none => trivial
    | some d =>
      dsimp only
      have e2 : ∀ args st, callN T gl W (n + 1) f args st = fin (canB T f) (runBody ⟨callN T gl W n, gl, W, hasN T n⟩ d args st) := fun args st => by
        show (match T.lookup f with | some d => fin (canB T f) (runBody ⟨callN T gl W n, gl, W, hasN T n⟩ d args st) | none => .stuck) = _
        rw [hl]
      unfold runP
      split
      case isFalse => exact trivial
      rename_i hcond
      obtain ⟨c1, c2, c3⟩ := hcond
      have hvl : vargs.length = d.params := by rw [A.length]; exact c1
      have hlen : pargs.length = vargs.length := A.length.symm
      have E0 := start_ok (d.names.length - pargs.length) A
      have S := ss_all ih d.body (hw f d hl)
      have kb : ∀ {st' Z' c'}, Go st Z c false st' Z' c' → Go st Z c (!(io f).any id) st' Z' c' := fun {st' Z' c'} g => by
        cases ha : (io f).any id with
        | true => exact g
        | false => exact ⟨g.len, fun n hn _ => g.keep n hn (.inr (hio ha n)), g.zz, g.zn, g.on⟩
      have rb : runBody ⟨callN T gl W n, gl, W, hasN T n⟩ d vargs st = (evalS ⟨callN T gl W n, gl, W, hasN T n⟩ d.body (vargs.map some ++ List.replicate (d.names.length - pargs.length) none) st).bindX fun p s1 => match p.1 with
          | .ret v => .ok v s1
          | .next => .ok .none s1
          | _ => .stuck := by
        unfold runBody
        rw [if_pos hvl, hlen]
        try rfl
      have pk : ∀ {e' : Env} (i : Nat) (v : Val), Same (fun i => noSet i d.body) (vargs.map some ++ List.replicate (d.names.length - pargs.length) none) e' → (io f)[i]? = some true → vargs[i]? = some v → e'[i]? = some (some v) := fun {e'} i v hS h1 h2 => by
        have := ioSet_ok c3 i h1
        rw [Nat.zero_add] at this
        rw [hS i this]
        have hi : i < vargs.length := (List.getElem?_eq_some_iff.mp h2).1
        rw [List.getElem?_append_left (by simpa using hi), List.getElem?_map, h2]; rfl
      have c4 : (io f).length ≤ vargs.length := by rw [hvl]; exact c2
      cases hr : evalPS ⟨callP T gp io W n, gp, W, hasN T n, io⟩ d.body (pargs.map some ++ List.replicate (d.names.length - pargs.length) none) with
      | stuck => exact trivial
      | ok f0 p1 =>
        obtain ⟨fl, e', st', g1, Z', a, b, R, E', W', G', S'⟩ := S.ok E0 Wc hr
        have done : ∀ {v : PV} {w : Val}, Rep st' Z' w v a → (fl = .ret w ∨ (fl = .next ∧ w = .none)) → FnR ⟨callN T gl W (n + 1), gl, W, hasN T (n + 1)⟩ (io f) f (finP (canB T f) (match outsOf (io f) p1 with | some os => .ok v os | none => .stuck)) vargs st Z c := fun {v w} RV hfl => by
          cases ho : outsOf (io f) p1 with
          | none => exact trivial
          | some os =>
            obtain ⟨b2, T2, hb2⟩ := outs_ok E' ho c4 fun i v h1 h2 => pk i v S' h1 h2
            refine ⟨w, st', Z', a, b2, ?_, RV, T2, W'.mono fun n => by have := hb2 n; (try dsimp only); omega, kb (G'.weak fun n => by have := hb2 n; (try dsimp only); omega)⟩
            show callN T gl W (n + 1) f vargs st = _
            rw [e2, rb, g1]
            rcases hfl with rfl | ⟨rfl, rfl⟩ <;> rfl
        cases R with
        | next z => exact done (.none z) (.inr ⟨rfl, rfl⟩)
        | ret r => exact done r (.inl rfl)
        | brk z => exact trivial
        | cont z => exact trivial
      | exc x v p1 =>
        obtain ⟨w, st', g1, Z', b, e', R, nn, E', W', G', S'⟩ := S.exc E0 Wc hr
        dsimp only
        cases ho : outsOf (io f) p1 with
        | none => exact trivial
        | some os =>
          obtain ⟨b2, T2, hb2⟩ := outs_ok E' ho c4 fun i v h1 h2 => pk i v S' h1 h2
          cases hcan : canB T f with
          | false => exact trivial
          | true =>
            refine ⟨w, st', Z', b2, ?_, R, nn, T2, W'.mono hb2, kb (G'.weak hb2)⟩
            show callN T gl W (n + 1) f vargs st = _
            rw [e2, rb, g1, hcan]; rfl
/-- the law's truth, plainly -/
theorem law_pure (hg : ∀ x v, gp x = some v → ∃ w, gl x = some w ∧ ∀ st Z, Rep st Z w v z0) (hw : ∀ f d, T.lookup f = some d → wfS d.body = true) {n : Nat} {f : Str} {ns : List Int} (hio : io f = []) (h : callP T gp io W n f [.ro (ns.map PV.int)] = .ok (.bool true) []) : ∃ s, callN T gl W n f [.ref 0] [.ro (ns.map Val.int)] = .ok (.bool true) s := by
  have P := fns_pure (W := W) (io := io) hg hw n
  have hr : ∀ l : List Int, Reps [Cell.ro (ns.map Val.int)] (fun n => n = 0) (l.map Val.int) (l.map PV.int) z0 := fun l => by
    induction l with
    | nil => exact .nil fun _ => rfl
    | cons x l ih => exact .cons (a := z0) (.int _ fun _ => rfl) ih fun _ => rfl
  have R : Reps [Cell.ro (ns.map Val.int)] (fun n => n = 0) [.ref 0] [.ro (ns.map PV.int)] z0 := Reps.one (.ro rfl rfl (hr ns) fun _ => rfl)
  have := P.fn f [.ro (ns.map PV.int)] [.ref 0] [Cell.ro (ns.map Val.int)] (fun n => n = 0) z0 R ⟨fun n => by simp, fun n q => by simp at q, fun n q => by simp at q, fun n z => by subst z; simp⟩ fun _ _ => rfl
  have e1 : (⟨callP T gp io W n, gp, W, hasN T n, io⟩ : PFns).fn f [.ro (ns.map PV.int)] = .ok (.bool true) [] := h
  rw [e1] at this
  obtain ⟨w, st', Z', a, b, f1, R1, _⟩ := this
  cases R1 with
  | bool _ _ => exact ⟨st', f1⟩
end
end Ev

set_option Elab.async false
set_option linter.all false
set_option maxRecDepth 100000
set_option maxHeartbeats 1000000
/-! ## Running plainly -/
namespace Ev
open PySem
/-! flags -/
@[simp] theorem noO_none : PV.none.noO = true := rfl
@[simp] theorem noO_bool {b : Bool} : (PV.bool b).noO = true := rfl
@[simp] theorem noO_int {i : Int} : (PV.int i).noO = true := rfl
@[simp] theorem noO_str {s : Str} : (PV.str s).noO = true := rfl
@[simp] theorem noO_tup {xs : List PV} : (PV.tup xs).noO = noOL xs := rfl
@[simp] theorem noO_lst {o : Bool} {xs : List PV} : (PV.lst o xs).noO = (!o && noOL xs) := rfl
@[simp] theorem noO_dict {o : Bool} {ks : List NestedKey} {vs : List PV} : (PV.dict o ks vs).noO = (!o && noOL vs) := rfl
@[simp] theorem noO_obj {o : Bool} {c : Str} {ks : List Str} {vs : List PV} : (PV.obj o c ks vs).noO = (!o && noOL vs) := rfl
@[simp] theorem noO_ro {xs : List PV} : (PV.ro xs).noO = noOL xs := rfl
@[simp] theorem noOL_nil : noOL [] = true := rfl
@[simp] theorem noOL_cons {x : PV} {xs : List PV} : noOL (x :: xs) = (x.noO && noOL xs) := rfl
@[simp] theorem noOL_map {α : Type} {f : α → PV} : ∀ {xs : List α}, noOL (xs.map f) = xs.all fun x => (f x).noO
  | [] => rfl
  | x :: xs => by rw [List.map_cons, noOL_cons, noOL_map, List.all_cons]
@[simp] theorem noOL_app : ∀ {xs ys : List PV}, noOL (xs ++ ys) = (noOL xs && noOL ys)
  | [], ys => by simp
  | x :: xs, ys => by rw [List.cons_append, noOL_cons, noOL_app, noOL_cons, Bool.and_assoc]
@[simp] theorem noOL_rep {x : PV} : ∀ {n : Nat}, noOL (List.replicate n x) = (decide (n = 0) || x.noO)
  | 0 => rfl
  | n + 1 => by rw [List.replicate_succ, noOL_cons, noOL_rep]; cases x.noO <;> simp
@[simp] theorem noF_none : PV.none.noF = true := rfl
@[simp] theorem noF_bool {b : Bool} : (PV.bool b).noF = true := rfl
@[simp] theorem noF_int {i : Int} : (PV.int i).noF = true := rfl
@[simp] theorem noF_str {s : Str} : (PV.str s).noF = true := rfl
@[simp] theorem noF_tup {xs : List PV} : (PV.tup xs).noF = noFL xs := rfl
@[simp] theorem noF_lst {o : Bool} {xs : List PV} : (PV.lst o xs).noF = (o && noFL xs) := rfl
@[simp] theorem noF_dict {o : Bool} {ks : List NestedKey} {vs : List PV} : (PV.dict o ks vs).noF = (o && noFL vs) := rfl
@[simp] theorem noF_obj {o : Bool} {c : Str} {ks : List Str} {vs : List PV} : (PV.obj o c ks vs).noF = (o && noFL vs) := rfl
@[simp] theorem noF_ro {xs : List PV} : (PV.ro xs).noF = false := rfl
@[simp] theorem noFL_nil : noFL [] = true := rfl
@[simp] theorem noFL_cons {x : PV} {xs : List PV} : noFL (x :: xs) = (x.noF && noFL xs) := rfl
@[simp] theorem noFL_map {α : Type} {f : α → PV} : ∀ {xs : List α}, noFL (xs.map f) = xs.all fun x => (f x).noF
  | [] => rfl
  | x :: xs => by rw [List.map_cons, noFL_cons, noFL_map, List.all_cons]
@[simp] theorem noFL_app : ∀ {xs ys : List PV}, noFL (xs ++ ys) = (noFL xs && noFL ys)
  | [], ys => by simp
  | x :: xs, ys => by rw [List.cons_append, noFL_cons, noFL_app, noFL_cons, Bool.and_assoc]
@[simp] theorem noFL_rep {x : PV} : ∀ {n : Nat}, noFL (List.replicate n x) = (decide (n = 0) || x.noF)
  | 0 => rfl
  | n + 1 => by rw [List.replicate_succ, noFL_cons, noFL_rep]; cases x.noF <;> simp
@[simp] theorem frz_none : PV.none.frz = .none := rfl
@[simp] theorem frz_bool {b : Bool} : (PV.bool b).frz = .bool b := rfl
@[simp] theorem frz_int {i : Int} : (PV.int i).frz = .int i := rfl
@[simp] theorem frz_str {s : Str} : (PV.str s).frz = .str s := rfl
@[simp] theorem frz_tup {xs : List PV} : (PV.tup xs).frz = .tup (frzL xs) := rfl
@[simp] theorem frz_lst {o : Bool} {xs : List PV} : (PV.lst o xs).frz = .lst false (frzL xs) := rfl
@[simp] theorem frz_dict {o : Bool} {ks : List NestedKey} {vs : List PV} : (PV.dict o ks vs).frz = .dict false ks (frzL vs) := rfl
@[simp] theorem frz_obj {o : Bool} {c : Str} {ks : List Str} {vs : List PV} : (PV.obj o c ks vs).frz = .obj false c ks (frzL vs) := rfl
@[simp] theorem frz_ro {xs : List PV} : (PV.ro xs).frz = .ro xs := rfl
@[simp] theorem frzL_nil : frzL [] = [] := rfl
@[simp] theorem frzL_cons {x : PV} {xs : List PV} : frzL (x :: xs) = x.frz :: frzL xs := rfl
@[simp] theorem frzL_map {α : Type} {f : α → PV} : ∀ {xs : List α}, frzL (xs.map f) = xs.map fun x => (f x).frz
  | [] => rfl
  | x :: xs => by rw [List.map_cons, frzL_cons, frzL_map, List.map_cons]
@[simp] theorem frzL_app : ∀ {xs ys : List PV}, frzL (xs ++ ys) = frzL xs ++ frzL ys
  | [], ys => by simp
  | x :: xs, ys => by rw [List.cons_append, frzL_cons, frzL_app, frzL_cons, List.cons_append]
@[simp] theorem frzL_rep {x : PV} : ∀ {n : Nat}, frzL (List.replicate n x) = List.replicate n x.frz
  | 0 => rfl
  | n + 1 => by rw [List.replicate_succ, frzL_cons, frzL_rep, List.replicate_succ]
@[simp] theorem kid_int {i : Int} : (PV.int i).kidsNoO = true := rfl
@[simp] theorem kid_str {i : Str} : (PV.str i).kidsNoO = true := rfl
@[simp] theorem kid_bool {i : Bool} : (PV.bool i).kidsNoO = true := rfl
@[simp] theorem kid_none : PV.none.kidsNoO = true := rfl
@[simp] theorem kid_tup {xs : List PV} : (PV.tup xs).kidsNoO = noOL xs := rfl
@[simp] theorem kid_lst {o : Bool} {xs : List PV} : (PV.lst o xs).kidsNoO = noOL xs := rfl
@[simp] theorem kid_dict {o : Bool} {ks : List NestedKey} {xs : List PV} : (PV.dict o ks xs).kidsNoO = noOL xs := rfl
/-! results -/
@[simp] theorem p_bind {α β : Type} {a : α} {e : PEnv} {f : α → PEnv → PR β} : (PR.ok a e).bind f = f a e := rfl
@[simp] theorem p_bindE {α β : Type} {c : Str} {v : PV} {e : PEnv} {f : α → PEnv → PR β} : (PR.exc c v e : PR α).bind f = .stuck := rfl
@[simp] theorem p_bindS {α β : Type} {f : α → PEnv → PR β} : (PR.stuck : PR α).bind f = .stuck := rfl
@[simp] theorem p_bindX {α β : Type} {a : α} {e : PEnv} {f : α → PEnv → PR β} : (PR.ok a e).bindX f = f a e := rfl
@[simp] theorem p_bindXE {α β : Type} {c : Str} {v : PV} {e : PEnv} {f : α → PEnv → PR β} : (PR.exc c v e : PR α).bindX f = .exc c v e := rfl
@[simp] theorem p_bindXS {α β : Type} {f : α → PEnv → PR β} : (PR.stuck : PR α).bindX f = .stuck := rfl
@[simp] theorem p_optS {α : Type} {a : α} {e : PEnv} : PR.opt (some a) e = .ok a e := rfl
@[simp] theorem p_optN {α : Type} {e : PEnv} : PR.opt (none : Option α) e = .stuck := rfl
@[simp] theorem p_ite {α β : Type} {c : Prop} [Decidable c] {x y : PR α} {f : α → PEnv → PR β} : (if c then x else y).bind f = if c then x.bind f else y.bind f := by split <;> rfl
@[simp] theorem p_iteX {α β : Type} {c : Prop} [Decidable c] {x y : PR α} {f : α → PEnv → PR β} : (if c then x else y).bindX f = if c then x.bindX f else y.bindX f := by split <;> rfl
@[simp] theorem p_one {α : Type} {x : BV} {f : BV → PR α} : one [x] f = f x := rfl
@[simp] theorem p_tone {α : Type} {v : PV} {f : PV → PR α} : tone [⟨v, none⟩] f = f v := rfl
@[simp] theorem p_tmp {v : PV} : tmp v = [⟨v, none⟩] := rfl
@[simp] theorem p_cur {v : PV} {e : PEnv} : cur ⟨v, none⟩ e = some v := rfl
@[simp] theorem p_curP {v : PV} {r : Nat} {pa : List Stp} {e : PEnv} : cur ⟨v, some (r, pa)⟩ e = getE e r pa := rfl
@[simp] theorem p_curs0 {e : PEnv} : curs [] e = some [] := rfl
@[simp] theorem p_curs {x : BV} {xs : List BV} {e : PEnv} : curs (x :: xs) e = (cur x e).bind fun v => (curs xs e).map (v :: ·) := rfl
@[simp] theorem p_tvals0 : tvals [] = some [] := rfl
@[simp] theorem p_tvals {v : PV} {xs : List BV} : tvals (⟨v, none⟩ :: xs) = (tvals xs).map (v :: ·) := rfl
@[simp] theorem p_okPl {v : PV} {c : Bool} : okPl ⟨v, none⟩ c = true := rfl
@[simp] theorem p_okPl1 {v : PV} {r : Nat} {c : Bool} : okPl ⟨v, some (r, [])⟩ c = true := rfl
@[simp] theorem p_okPl2 {v : PV} {r : Nat} {s : Stp} {pa : List Stp} {c : Bool} : okPl ⟨v, some (r, s :: pa)⟩ c = c := rfl
theorem p_touch {m : Md} {r : Nat} {pa : List Stp} {v : PV} {e : PEnv} (h : v.noO = true) : touch m r pa v e = .ok [⟨v, none⟩] e := by unfold touch; rw [if_pos h]
@[simp] theorem p_touch1 {m : Md} {r : Nat} {pa : List Stp} {v : PV} {e : PEnv} : touch m r pa v e = if v.noO = true then .ok [⟨v, none⟩] e else
  match m with
  | .bo => .ok [⟨v, some (r, pa)⟩] e
  | .ki => if v.kidsNoO = true then .ok [⟨v, some (r, pa)⟩] e else share r pa v e
  | .sh => share r pa v e
  | .mv => (match pa with
    | [] => .ok [⟨v, none⟩] (e.set r none)
    | _ => share r pa v e) := rfl
@[simp] theorem p_share {r : Nat} {v w : PV} {e : PEnv} (h : e[r]? = some (some w)) : share r [] v e = .ok [⟨v.frz, none⟩] (e.set r (some v.frz)) := by unfold share; rw [h]; rfl
@[simp] theorem p_getE {e : PEnv} {r : Nat} : getE e r [] = match e[r]? with | some (some v) => some v | _ => none := by
  unfold getE
  split
  · rename_i h; simp [h, ownP, getP]
  · rename_i h
    first
    | rfl
    | (split
       · rename_i h2; exact absurd h2 (h _)
       · rfl)
@[simp] theorem p_putE {e : PEnv} {r : Nat} {c : PV} : putE e r [] c = match e[r]? with | some (some _) => some (e.set r (some c)) | _ => none := by
  unfold putE
  split
  · rename_i h; simp [h, setP]
  · rename_i h
    first
    | rfl
    | (split
       · rename_i h2; exact absurd h2 (h _)
       · rfl)
@[simp] theorem p_tests {x : BV} {e : PEnv} : tests x e = PR.opt ((cur x e).bind ptruth) e := rfl
@[simp] theorem p_kids {v : PV} {o : Option PV} : kids v o = if v.kidsNoO = true then o else none := rfl
@[simp] theorem p_asB {b : Bool} : asBool (some (.bool b)) = some b := rfl
@[simp] theorem p_optI {α : Type} {c : Prop} [Decidable c] {x y : Option α} {e : PEnv} : PR.opt (if c then x else y) e = if c then PR.opt x e else PR.opt y e := by split <;> rfl
/-! expressions -/
section
variable {F : PFns} {m : Md} {env : PEnv}
@[simp] theorem pe_var {i : Nat} : evalP F (.var i) m env = (match env[i]? with | some (some v) => touch m i [] v env | _ => .stuck) := rfl
@[simp] theorem pe_none : evalP F .none_ m env = .ok [⟨.none, none⟩] env := rfl
@[simp] theorem pe_bool {b : Bool} : evalP F (.bool_ b) m env = .ok [⟨.bool b, none⟩] env := rfl
@[simp] theorem pe_int {i : Int} : evalP F (.int_ i) m env = .ok [⟨.int i, none⟩] env := rfl
@[simp] theorem pe_str {s : Str} : evalP F (.str_ s) m env = .ok [⟨.str s, none⟩] env := rfl
@[simp] theorem pe_glob {x : Str} : evalP F (.glob x) m env = (match F.glob x with | some v => .ok [⟨v, none⟩] env | none => .stuck) := rfl
@[simp] theorem pe_nil : evalP F .nil m env = .ok [] env := rfl
@[simp] theorem pe_cons {a r : CE} : evalP F (.cons a r) m env = (evalP F a m env).bindX fun xs e1 => one xs fun x => (evalP F r m e1).bindX fun ys e2 => if okPl x (calm F.io r) = true then .ok (x :: ys) e2 else .stuck := rfl
@[simp] theorem pe_tup {args : CE} : evalP F (.tup args) m env = (evalP F args (mvSh m) env).bind fun xs e1 => (match tvals xs with | some vs => if vs.length ≤ sizeLine then .ok [⟨.tup vs, none⟩] e1 else .stuck | none => .stuck) := rfl
@[simp] theorem pe_lst {args : CE} : evalP F (.lst args) m env = (evalP F args .sh env).bind fun xs e1 => (match tvals xs with | some vs => if vs.length ≤ sizeLine then .ok [⟨.lst true vs, none⟩] e1 else .stuck | none => .stuck) := rfl
@[simp] theorem pe_bin {op : Bop} {a b : CE} : evalP F (.bin op a b) m env = (evalP F a .ki env).bind fun xs e1 => one xs fun x => (evalP F b .ki e1).bind fun ys e2 => one ys fun y =>
      if okPl x (calm F.io b) = true then PR.opt (((cur x e2).bind fun v => (cur y e2).bind fun w => kids v (kids w (pbin op v w))).map tmp) e2 else .stuck := rfl
@[simp] theorem pe_neg {a : CE} : evalP F (.neg a) m env = (evalP F a .bo env).bind fun xs e1 => tone xs fun v => (match v with | .int i => .ok [⟨.int (-i), none⟩] e1 | _ => .stuck) := rfl
@[simp] theorem pe_cmp {op : Cop} {a b : CE} : evalP F (.cmp op a b) m env = (evalP F a .bo env).bind fun xs e1 => one xs fun x => (evalP F b .bo e1).bind fun ys e2 => one ys fun y =>
      if okPl x (calm F.io b) = true then PR.opt (((cur x e2).bind fun v => (cur y e2).bind fun w => pcmp op v w).map tmp) e2 else .stuck := rfl
@[simp] theorem pe_chain {op op' : Cop} {a b c : CE} : evalP F (.chain op op' a b c) m env = (evalP F a .bo env).bind fun xs e1 => tone xs fun v => (evalP F b .bo e1).bind fun ys e2 => tone ys fun w =>
      (match asBool (pcmp op v w) with
        | some d => if d = true then (evalP F c .bo e2).bind fun zs e3 => tone zs fun u => PR.opt ((pcmp op' w u).map tmp) e3
          else .ok [⟨.bool false, none⟩] e2
        | none => .stuck) := rfl
@[simp] theorem pe_and1 {a : CE} : evalP F (.and1 a) m env = evalP F a m env := rfl
@[simp] theorem pe_and2 {a r : CE} : evalP F (.and2 a r) m env = (evalP F a .bo env).bind fun xs e1 => tone xs fun v => (match v with
    | .bool d => if d = true then evalP F r m e1 else .ok [⟨.bool false, none⟩] e1
    | _ => .stuck) := rfl
@[simp] theorem pe_or1 {a : CE} : evalP F (.or1 a) m env = evalP F a m env := rfl
@[simp] theorem pe_or2 {a r : CE} : evalP F (.or2 a r) m env = (evalP F a .bo env).bind fun xs e1 => tone xs fun v => (match v with
    | .bool d => if d = true then .ok [⟨.bool true, none⟩] e1 else evalP F r m e1
    | _ => .stuck) := rfl
@[simp] theorem pe_not {a : CE} : evalP F (.not_ a) m env = (evalP F a .bo env).bind fun xs e1 => one xs fun x => (tests x e1).bind fun b e2 => .ok [⟨.bool (!b), none⟩] e2 := rfl
@[simp] theorem pe_ifx {c a b : CE} : evalP F (.ifx c a b) m env = (evalP F c .bo env).bind fun xs e1 => one xs fun x => (tests x e1).bind fun t e2 => if t = true then evalP F a m e2 else evalP F b m e2 := rfl
@[simp] theorem pe_ix {a i : CE} : evalP F (.ix a i) m env = (evalP F a .bo env).bind fun xs e1 => one xs fun x => (evalP F i .sh e1).bind fun ys e2 => tone ys fun y => (match x.pl with
      | none => PR.opt ((getS (.ix y) x.v).map tmp) e2
      | some (r, p) => if p.isEmpty || calm F.io i then (match getE e2 r p with
        | some v => if v.ownT = true then (match getS (.ix y) v with
          | some c => touch m r (p ++ [.ix y]) c e2
          | none => .stuck) else .stuck
        | none => .stuck) else .stuck) := rfl
@[simp] theorem pe_slice {a lo hi : CE} : evalP F (.slice a lo hi) m env = (evalP F a .ki env).bind fun xs e1 => one xs fun x =>
      (if isNil lo = true then PR.ok none e1 else (evalP F lo .bo e1).bind fun ls e => tone ls fun l => PR.opt ((ppart l).map some) e).bind fun l e2 =>
      (if isNil hi = true then PR.ok none e2 else (evalP F hi .bo e2).bind fun ls e => tone ls fun l => PR.opt ((ppart l).map some) e).bind fun h e3 =>
      if okPl x (calm F.io lo && calm F.io hi) = true then PR.opt (((cur x e3).bind fun v => kids v (pslice v l h)).map tmp) e3 else .stuck := rfl
@[simp] theorem pe_rev {a : CE} : evalP F (.rev a) m env = (evalP F a .ki env).bind fun xs e1 => one xs fun x => PR.opt (((cur x e1).bind fun v => kids v (prev v)).map tmp) e1 := rfl
@[simp] theorem pe_call {f : Str} {args : CE} : evalP F (.call f args) m env = (match evalP F args .bo env with
    | .ok bs e1 => callB F f bs e1
    | .exc c v e1 => if F.has f = true then .exc c v e1 else .stuck
    | .stuck => .stuck) := rfl
@[simp] theorem pe_bi {b : Bi} {args : CE} : evalP F (.bi b args) m env = (evalP F args (if biMd b = true then .ki else .bo) env).bind fun xs e1 => PR.opt (((curs xs e1).bind fun vs => if biMd b = true ∧ (vs.all fun v => v.kidsNoO) = false then none else pbi b vs).map tmp) e1 := rfl
@[simp] theorem pe_isi {t : Ty} {a : CE} : evalP F (.isi t a) m env = (evalP F a .bo env).bind fun xs e1 => one xs fun x => PR.opt (((cur x e1).bind fun v => pisInst t v).map fun b => tmp (.bool b)) e1 := rfl
@[simp] theorem pe_meth {mt : Mt} {o args : CE} : evalP F (.meth mt o args) m env = (evalP F o .bo env).bind fun xs e1 => one xs fun x => if pmtOk mt (cur x e1) = false then .stuck else (evalP F args .sh e1).bind fun ys e2 => (match tvals ys with
      | some ws => if mtW mt = true then (match x.pl with
          | none => .stuck
          | some (r, p) => if p.isEmpty || calm F.io args then (match getE e2 r p with
            | some c => (match pwrite mt c ws with
              | some (a, c') => (match putE e2 r p c' with | some e3 => .ok [⟨a, none⟩] e3 | none => .stuck)
              | none => .stuck)
            | none => .stuck) else .stuck)
        else if okPl x (calm F.io args) = true then PR.opt (((cur x e2).bind fun v => if mt = .get then kids v (pread mt v ws) else pread mt v ws).map tmp) e2 else .stuck
      | none => .stuck) := rfl
theorem pe_comp {k : Src} {i : Nat} {src cond elt : CE} : evalP F (.comp k i src cond elt) m env = (evalP F src .sh env).bind fun vs e1 => (match srcP k vs with
      | some xs => (compP (stepP F i cond elt) xs [] e1).bind fun acc e2 => .ok [⟨.lst true acc, none⟩] (e2.set i (back e1 i))
      | none => .stuck) := rfl
@[simp] theorem pe_kv {k v r : CE} : evalP F (.kv k v r) m env = (evalP F k .sh env).bind fun xs e1 => tone xs fun x => (evalP F v .sh e1).bind fun ys e2 => tone ys fun y => (evalP F r .sh e2).bind fun ws e3 => .ok (⟨x, none⟩ :: ⟨y, none⟩ :: ws) e3 := rfl
@[simp] theorem pe_dict {ps : CE} : evalP F (.dict ps) m env = (evalP F ps .sh env).bind fun ws e1 => (match (tvals ws).bind pPairs with
      | some kvs => if kvs.length ≤ 15 then .ok [⟨.dict true (pMerge kvs [] []).1 (pMerge kvs [] []).2, none⟩] e1 else .stuck
      | none => .stuck) := rfl
theorem pe_isx {c : Str} {a : CE} (h : F.fuel % 2 = 1) : evalP F (.isx c a) m env = (evalP F a .bo env).bind fun xs e1 => one xs fun x => PR.opt (((cur x e1).bind fun v => pexc v c).map fun b => tmp (.bool b)) e1 := if_pos h
theorem pe_fldA {a : CE} (h : F.fuel % 2 = 1) : evalP F (.fld "at" a) m env = (evalP F a .bo env).bind fun xs e1 => one xs fun x => PR.opt (((cur x e1).bind (fldO "at")).map tmp) e1 := if_pos ⟨h, rfl⟩
end
/-! statements -/
section
variable {F : PFns} {env : PEnv}
noncomputable def runPS (F : PFns) (a : CS) (env : PEnv) : PR PFlow := evalPS F a env
noncomputable def runPT (F : PFns) (c : CE) (env : PEnv) : PR Bool := (evalP F c .bo env).bind fun xs e1 => one xs fun x => tests x e1
@[simp] theorem ps_skip : evalPS F .skip env = .ok .next env := rfl
@[simp] theorem ps_seq {s r : CS} : evalPS F (.seq s r) env = (evalPS F s env).bindX fun p e1 => match p with | .next => evalPS F r e1 | f => .ok f e1 := rfl
@[simp] theorem ps_expr {e : CE} : evalPS F (.expr e) env = (evalP F e .bo env).bindX fun xs e1 => one xs fun _ => .ok .next e1 := rfl
@[simp] theorem ps_ret {e : CE} : evalPS F (.ret e) env = (evalP F e .mv env).bindX fun xs e1 => tone xs fun v => .ok (.ret v) e1 := rfl
@[simp] theorem ps_retN : evalPS F .retN env = .ok (.ret .none) env := rfl
@[simp] theorem ps_pass : evalPS F .pass env = .ok .next env := rfl
@[simp] theorem ps_brk : evalPS F .brk env = .ok .brk env := rfl
@[simp] theorem ps_cont : evalPS F .cont env = .ok .cont env := rfl
@[simp] theorem ps_set {i : Nat} {e : CE} : evalPS F (.set i e) env = (evalP F e .sh env).bindX fun xs e1 => tone xs fun v => .ok .next (e1.set i (some v)) := rfl
@[simp] theorem ps_tset {is : List Nat} {e : CE} : evalPS F (.tset is e) env = (evalP F e .sh env).bind fun xs e1 => tone xs fun v => (match v with
    | .tup vs => (match psetAll is vs e1 with | some e2 => .ok .next e2 | none => .stuck)
    | _ => .stuck) := rfl
@[simp] theorem ps_tpar {i j : Nat} {e : CE} : evalPS F (.tpar i j e) env = (evalP F e .sh env).bind fun xs e1 => (match tvals xs with
    | some [x, y] => .ok .next ((e1.set i (some x)).set j (some y))
    | _ => .stuck) := rfl
@[simp] theorem ps_sub {o i e : CE} : evalPS F (.sub o i e) env = (evalP F e .sh env).bind fun vs e1 => tone vs fun v => (evalP F o .bo e1).bind fun xs e2 => one xs fun x => (evalP F i .sh e2).bind fun ys e3 => tone ys fun y => (match x.pl with
    | some (r, p) => if p.isEmpty || calm F.io i then (match getE e3 r p with
      | some c => (match psub c y v with
        | some c' => (match putE e3 r p c' with | some e4 => .ok .next e4 | none => .stuck)
        | none => .stuck)
      | none => .stuck) else .stuck
    | none => .stuck) := rfl
@[simp] theorem ps_if {c : CE} {a b : CS} : evalPS F (.if_ c a b) env = (evalP F c .bo env).bind fun xs e1 => one xs fun x => (tests x e1).bind fun t e2 => if t = true then evalPS F a e2 else evalPS F b e2 := rfl
@[simp] theorem ps_while {c : CE} {a : CS} : evalPS F (.while_ c a) env = whileP (runPT F c) (runPS F a) F.fuel env := rfl
@[simp] theorem ps_for {k : Src} {is : List Nat} {src : CE} {a : CS} : evalPS F (.for_ k is src a) env = (evalP F src .sh env).bind fun vs e1 => (match srcP k vs with
    | some xs => forP is (runPS F a) xs e1
    | none => .stuck) := rfl
@[simp] theorem ps_never : evalPS F .never env = .stuck := rfl
theorem ps_raise0 {c : Str} (h : c ∈ exc0) (hx : F.fuel % 2 = 1) : evalPS F (.raise0 c) env = .exc c .none env := if_pos ⟨h, hx⟩
theorem ps_raise1 {e : CE} (hx : F.fuel % 2 = 1) : evalPS F (.raise1 "Over" e) env = (evalP F e .sh env).bind fun xs e1 => tone xs fun v => if v.noO = true ∧ v.noF = true then .exc "Over" v e1 else .stuck := if_pos ⟨rfl, hx⟩
theorem ps_try {i : Nat} {e : CE} {n j : Nat} (hx : F.fuel % 2 = 1) : evalPS F (.tryc i e "ScoreError" n j) env = (match evalP F e .sh env with
    | .ok xs e1 => tone xs fun v => .ok .next (e1.set i (some v))
    | .exc c v e1 => .ok .next ((e1.set j (some (.obj true c ((excFs c .none).map (·.1)) (if c = "Over" then [v] else [])))).set n none)
    | .stuck => .stuck) := if_pos ⟨rfl, hx⟩
/-! calls -/
/-- behind a call -/
noncomputable def endC (ms : List Bool) (bs : List BV) (env : PEnv) (r : PC) : PR (List BV) := match r with
      | .ok v outs => (match putOuts ms bs outs (if leak v outs = true then frzWhere (roSlot ms bs) env else env) with
        | some e2 => .ok [⟨v, none⟩] e2
        | none => .stuck)
      | .exc c v outs => (match putOuts ms bs outs (if leak v outs = true then frzWhere (roSlot ms bs) env else env) with
        | some e2 => .exc c v e2
        | none => .stuck)
      | .stuck => .stuck
theorem callB_eq {f : Str} {bs : List BV} {ms : List Bool} (hio : F.io f = ms) : callB F f bs env = (takeIO ms bs env).elim .stuck fun q => (argV ms bs q.1 q.2).elim .stuck fun args => endC ms bs q.2 (F.fn f args) := by
  unfold callB
  rw [hio]
  cases takeIO ms bs env with
  | none => rfl
  | some q =>
    obtain ⟨a, b⟩ := q
    show (match argV ms bs a b with | some args => _ | none => _) = (argV ms bs a b).elim _ _
    cases argV ms bs a b with
    | none => rfl
    | some args => rfl
@[simp] theorem endC_ok {ms : List Bool} {bs : List BV} {v : PV} {outs : List PV} : endC ms bs env (.ok v outs) = (match putOuts ms bs outs (if (v.noF && noFL outs) = true then env else frzWhere (roSlot ms bs) env) with
        | some e2 => .ok [⟨v, none⟩] e2
        | none => .stuck) := by
  unfold endC leak
  dsimp only
  cases (v.noF && noFL outs) <;> rfl
@[simp] theorem endC_exc {ms : List Bool} {bs : List BV} {c : Str} {v : PV} {outs : List PV} : endC ms bs env (.exc c v outs) = (match putOuts ms bs outs (if (v.noF && noFL outs) = true then env else frzWhere (roSlot ms bs) env) with
        | some e2 => .exc c v e2
        | none => .stuck) := by
  unfold endC leak
  dsimp only
  cases (v.noF && noFL outs) <;> rfl
@[simp] theorem endC_ite {ms : List Bool} {bs : List BV} {c : Prop} [Decidable c] {x y : PC} : endC ms bs env (if c then x else y) = if c then endC ms bs env x else endC ms bs env y := by split <;> rfl
@[simp] theorem argV_nil0 {env : PEnv} {vs : List PV} : argV [] [] vs env = some [] := rfl
@[simp] theorem argV_nil {b : BV} {bs : List BV} {vs : List PV} {env : PEnv} : argV [] (b :: bs) vs env = (cur b env).bind fun v => (argV [] bs vs env).map (v.frz :: ·) := rfl
@[simp] theorem argV_f {b : BV} {ms : List Bool} {bs : List BV} {vs : List PV} {env : PEnv} : argV (false :: ms) (b :: bs) vs env = (cur b env).bind fun v => (argV ms bs vs env).map (v.frz :: ·) := rfl
@[simp] theorem argV_t {b : BV} {ms : List Bool} {bs : List BV} {v : PV} {vs : List PV} {env : PEnv} : argV (true :: ms) (b :: bs) (v :: vs) env = (argV ms bs vs env).map (v :: ·) := rfl
@[simp] theorem putOuts_nil {bs : List BV} {env : PEnv} : putOuts [] bs [] env = some env := by cases bs <;> rfl
@[simp] theorem putOuts_f {b : BV} {ms : List Bool} {bs : List BV} {os : List PV} {env : PEnv} : putOuts (false :: ms) (b :: bs) os env = putOuts ms bs os env := rfl
@[simp] theorem putOuts_t {v : PV} {r : Nat} {pa : List Stp} {ms : List Bool} {bs : List BV} {o : PV} {os : List PV} {env : PEnv} : putOuts (true :: ms) (⟨v, some (r, pa)⟩ :: bs) (o :: os) env = putOuts ms bs os (env.set r (some o)) := rfl
@[simp] theorem putOuts_t0 {v : PV} {ms : List Bool} {bs : List BV} {o : PV} {os : List PV} {env : PEnv} : putOuts (true :: ms) (⟨v, none⟩ :: bs) (o :: os) env = putOuts ms bs os env := rfl
@[simp] theorem takeIO_nil {bs : List BV} {env : PEnv} : takeIO [] bs env = some ([], env) := by cases bs <;> rfl
@[simp] theorem takeIO_f {b : BV} {ms : List Bool} {bs : List BV} {env : PEnv} : takeIO (false :: ms) (b :: bs) env = takeIO ms bs env := rfl
@[simp] theorem takeIO_t0 {v : PV} {ms : List Bool} {bs : List BV} {env : PEnv} : takeIO (true :: ms) (⟨v, none⟩ :: bs) env = (takeIO ms bs env).map fun r => (v :: r.1, r.2) := rfl
@[simp] theorem takeIO_t {v : PV} {r : Nat} {ms : List Bool} {bs : List BV} {env : PEnv} : takeIO (true :: ms) (⟨v, some (r, [])⟩ :: bs) env = (match env[r]? with | some (some w) => (takeIO ms bs (env.set r none)).map fun q => (w :: q.1, q.2) | _ => none) := by
  cases h : env[r]? with
  | none => simp only [takeIO, h]
  | some u => cases u <;> simp only [takeIO, h]
@[simp] theorem leak_eq {v : PV} {os : List PV} : leak v os = !(v.noF && noFL os) := rfl
end
/-! operations -/
@[simp] theorem g_tup {i : Int} {xs : List PV} : getS (.ix (.int i)) (.tup xs) = L2.atI xs i := rfl
@[simp] theorem g_lst {i : Int} {o : Bool} {xs : List PV} : getS (.ix (.int i)) (.lst o xs) = L2.atI xs i := rfl
@[simp] theorem g_ro {i : Int} {xs : List PV} : getS (.ix (.int i)) (.ro xs) = L2.atI xs i := rfl
@[simp] theorem g_dictS {s : Str} {o : Bool} {ks : List NestedKey} {xs : List PV} : getS (.ix (.str s)) (.dict o ks xs) = dget ks xs (.text s) := rfl
@[simp] theorem g_dictI {s : Int} {o : Bool} {ks : List NestedKey} {xs : List PV} : getS (.ix (.int s)) (.dict o ks xs) = dget ks xs (.num s) := rfl
@[simp] theorem own_lst {o : Bool} {xs : List PV} : (PV.lst o xs).ownT = o := rfl
@[simp] theorem own_dict {o : Bool} {ks : List NestedKey} {xs : List PV} : (PV.dict o ks xs).ownT = o := rfl
@[simp] theorem own_tup {xs : List PV} : (PV.tup xs).ownT = true := rfl
@[simp] theorem t_bool {b : Bool} : ptruth (.bool b) = some b := rfl
@[simp] theorem t_none : ptruth .none = some false := rfl
@[simp] theorem t_int {i : Int} : ptruth (.int i) = some (i != 0) := rfl
@[simp] theorem t_tup {xs : List PV} : ptruth (.tup xs) = some (!xs.isEmpty) := rfl
@[simp] theorem t_lst {o : Bool} {xs : List PV} : ptruth (.lst o xs) = some (!xs.isEmpty) := rfl
@[simp] theorem t_ro {xs : List PV} : ptruth (.ro xs) = some (!xs.isEmpty) := rfl
@[simp] theorem pb_add {i j : Int} : pbin .add (.int i) (.int j) = some (.int (i + j)) := rfl
@[simp] theorem pb_sub {i j : Int} : pbin .sub (.int i) (.int j) = some (.int (i - j)) := rfl
@[simp] theorem pb_addT {xs ys : List PV} : pbin .add (.tup xs) (.tup ys) = pneed (xs.length + ys.length ≤ sizeLine) (.tup (xs ++ ys)) := rfl
@[simp] theorem pb_addL {o o' : Bool} {xs ys : List PV} : pbin .add (.lst o xs) (.lst o' ys) = pneed (xs.length + ys.length ≤ sizeLine) (.lst true (xs ++ ys)) := rfl
@[simp] theorem pb_mulT {xs : List PV} {k : Int} : pbin .mul (.tup xs) (.int k) = pneed (xs ≠ [] ∧ 2 ≤ k ∧ k ≤ 1000 ∧ xs.length ≤ 1000) (.tup (List.replicate k.toNat xs).flatten) := rfl
@[simp] theorem pb_addS {x y : Str} : pbin .add (.str x) (.str y) = pneed (x.length + y.length ≤ sizeLine) (.str (x ++ y)) := rfl
theorem pb_mul {i j : Int} (h : (-(2 ^ 64) < i ∧ i < 2 ^ 64) ∨ (-(2 ^ 64) < j ∧ j < 2 ^ 64)) : pbin .mul (.int i) (.int j) = some (.int (i * j)) := if_pos h
theorem pb_fdiv {i j : Int} (h : 0 < j) (h2 : j < 1073741824) : pbin .fdiv (.int i) (.int j) = some (.int (i / j)) := if_pos ⟨h, h2⟩
theorem pb_mod {i j : Int} (h : 0 < j) : pbin .mod (.int i) (.int j) = some (.int (i % j)) := if_pos h
theorem pb_pow {i j : Int} (h : 0 ≤ j ∧ j ≤ 1000000 ∧ i.natAbs < 2 ^ 64) : pbin .pow (.int i) (.int j) = some (.int (i ^ j.toNat)) := if_pos h
theorem pneed_pos {α : Type} {P : Prop} [Decidable P] {a : α} (h : P) : pneed P a = some a := if_pos h
@[simp] theorem pc_eqI {i j : Int} : pcmp .eq (.int i) (.int j) = some (.bool (decide (i = j))) := rfl
@[simp] theorem pc_neI {i j : Int} : pcmp .ne (.int i) (.int j) = some (.bool (!decide (i = j))) := rfl
@[simp] theorem pc_eqS {i j : Str} : pcmp .eq (.str i) (.str j) = some (.bool (decide (i = j))) := rfl
@[simp] theorem pc_neS {i j : Str} : pcmp .ne (.str i) (.str j) = some (.bool (!decide (i = j))) := rfl
@[simp] theorem pc_eqNI {j : Int} : pcmp .eq .none (.int j) = some (.bool false) := rfl
@[simp] theorem pc_eqIN {j : Int} : pcmp .eq (.int j) .none = some (.bool false) := rfl
@[simp] theorem pc_neNI {j : Int} : pcmp .ne .none (.int j) = some (.bool true) := rfl
@[simp] theorem pc_neIN {j : Int} : pcmp .ne (.int j) .none = some (.bool true) := rfl
@[simp] theorem pc_neNN : pcmp .ne .none .none = some (.bool false) := rfl
@[simp] theorem pc_eqNN : pcmp .eq .none .none = some (.bool true) := rfl
@[simp] theorem pc_neB {a b : Bool} : pcmp .ne (.bool a) (.bool b) = some (.bool (!decide (a = b))) := rfl
@[simp] theorem pc_eqB {a b : Bool} : pcmp .eq (.bool a) (.bool b) = some (.bool (decide (a = b))) := rfl
@[simp] theorem pc_lt {i j : Int} : pcmp .lt (.int i) (.int j) = some (.bool (decide (i < j))) := rfl
@[simp] theorem pc_le {i j : Int} : pcmp .le (.int i) (.int j) = some (.bool (decide (i ≤ j))) := rfl
@[simp] theorem pc_gt {i j : Int} : pcmp .gt (.int i) (.int j) = some (.bool (decide (j < i))) := rfl
@[simp] theorem pc_ge {i j : Int} : pcmp .ge (.int i) (.int j) = some (.bool (decide (j ≤ i))) := rfl
@[simp] theorem pc_is {a : PV} : pcmp .is_ a .none = some (.bool (match a with | .none => true | _ => false)) := rfl
@[simp] theorem pc_isnot {a : PV} : pcmp .isnot a .none = some (.bool (match a with | .none => false | _ => true)) := rfl
@[simp] theorem pc_in {a b : PV} : pcmp .isin a b = (pinM a b).map PV.bool := rfl
@[simp] theorem pc_notin {a b : PV} : pcmp .notin a b = (pinM a b).map fun r => .bool (!r) := rfl
@[simp] theorem pi_none {t : Ty} : pisInst t .none = some false := rfl
@[simp] theorem pi_bool {t : Ty} {b : Bool} : pisInst t (.bool b) = some (decide (t = .int) || decide (t = .bool)) := rfl
@[simp] theorem pi_int {t : Ty} {b : Int} : pisInst t (.int b) = some (decide (t = .int)) := rfl
@[simp] theorem pi_str {t : Ty} {b : Str} : pisInst t (.str b) = some (decide (t = .str)) := rfl
@[simp] theorem pi_tup {t : Ty} {b : List PV} : pisInst t (.tup b) = some (decide (t = .tuple)) := rfl
@[simp] theorem pi_lst {t : Ty} {o : Bool} {b : List PV} : pisInst t (.lst o b) = some (decide (t = .list)) := rfl
@[simp] theorem bi_lenT {xs : List PV} : pbi .len [.tup xs] = some (.int xs.length) := rfl
@[simp] theorem bi_lenL {o : Bool} {xs : List PV} : pbi .len [.lst o xs] = some (.int xs.length) := rfl
@[simp] theorem bi_lenR {xs : List PV} : pbi .len [.ro xs] = some (.int xs.length) := rfl
@[simp] theorem bi_abs {i : Int} : pbi .abs [.int i] = some (.int (iabs i)) := rfl
@[simp] theorem bi_max {i j : Int} : pbi .max [.int i, .int j] = some (.int (imax i j)) := rfl
@[simp] theorem bi_min {i j : Int} : pbi .min [.int i, .int j] = some (.int (imin i j)) := rfl
@[simp] theorem bi_maxL {o : Bool} {xs : List PV} : pbi .max [.lst o xs] = ((pInts xs).bind maxI).map PV.int := rfl
@[simp] theorem bi_minL {o : Bool} {xs : List PV} : pbi .min [.lst o xs] = ((pInts xs).bind minI).map PV.int := rfl
@[simp] theorem bi_sum {o : Bool} {xs : List PV} : pbi .sum [.lst o xs] = (pInts xs).map fun ns => .int ns.sum := rfl
@[simp] theorem bi_all {o : Bool} {xs : List PV} : pbi .all [.lst o xs] = (pBools xs).map fun bs => .bool (bs.all id) := rfl
@[simp] theorem bi_int {i : Int} : pbi .int [.int i] = some (.int i) := rfl
@[simp] theorem bi_intB {b : Bool} : pbi .int [.bool b] = some (.int (if b then 1 else 0)) := rfl
@[simp] theorem bi_listT {xs : List PV} : pbi .list [.tup xs] = some (.lst true xs) := rfl
@[simp] theorem bi_listL {o : Bool} {xs : List PV} : pbi .list [.lst o xs] = some (.lst true xs) := rfl
@[simp] theorem bi_tupT {xs : List PV} : pbi .tuple [.tup xs] = some (.tup xs) := rfl
@[simp] theorem bi_tupL {o : Bool} {xs : List PV} : pbi .tuple [.lst o xs] = some (.tup xs) := rfl
@[simp] theorem biMd_list : biMd .list = true := rfl
@[simp] theorem biMd_tuple : biMd .tuple = true := rfl
@[simp] theorem biMd_len : biMd .len = false := rfl
@[simp] theorem biMd_abs : biMd .abs = false := rfl
@[simp] theorem biMd_max : biMd .max = false := rfl
@[simp] theorem biMd_min : biMd .min = false := rfl
@[simp] theorem biMd_sum : biMd .sum = false := rfl
@[simp] theorem biMd_all : biMd .all = false := rfl
@[simp] theorem biMd_int : biMd .int = false := rfl
@[simp] theorem biMd_str : biMd .str = false := rfl
@[simp] theorem pInts_map {α : Type} {f : α → Int} : ∀ xs : List α, pInts (xs.map fun x => PV.int (f x)) = some (xs.map f)
  | [] => rfl
  | x :: xs => by
    rw [List.map_cons]
    show (pInts (xs.map fun x => PV.int (f x))).map _ = _
    rw [pInts_map xs]; rfl
@[simp] theorem pInts_map' : ∀ xs : List Int, pInts (xs.map PV.int) = some xs
  | [] => rfl
  | x :: xs => by
    rw [List.map_cons]
    show (pInts (xs.map PV.int)).map _ = _
    rw [pInts_map' xs]; rfl
@[simp] theorem pInts_nil : pInts [] = some [] := rfl
@[simp] theorem pInts_cons {i : Int} {xs : List PV} : pInts (.int i :: xs) = (pInts xs).map (i :: ·) := rfl
@[simp] theorem pBools_map {α : Type} {f : α → Bool} : ∀ xs : List α, pBools (xs.map fun x => PV.bool (f x)) = some (xs.map f)
  | [] => rfl
  | x :: xs => by
    rw [List.map_cons]
    show (pBools (xs.map fun x => PV.bool (f x))).map _ = _
    rw [pBools_map xs]; rfl
@[simp] theorem sl_tupP {xs : List PV} {l h : Option Int} : pslice (.tup xs) l h = some (.tup (cut xs l h)) := rfl
@[simp] theorem sl_lstP {o : Bool} {xs : List PV} {l h : Option Int} : pslice (.lst o xs) l h = some (.lst true (cut xs l h)) := rfl
@[simp] theorem part_intP {i : Int} : ppart (.int i) = some i := rfl
@[simp] theorem mvSh_mv : mvSh .mv = .mv := rfl
@[simp] theorem mvSh_sh : mvSh .sh = .sh := rfl
@[simp] theorem mvSh_bo : mvSh .bo = .sh := rfl
@[simp] theorem mvSh_ki : mvSh .ki = .sh := rfl
@[simp] theorem pmt_l {m : Mt} {o : Bool} {xs : List PV} : pmtOk m (some (.lst o xs)) = decide (m ≠ .get) := rfl
@[simp] theorem pmt_d {m : Mt} {o : Bool} {ks : List NestedKey} {xs : List PV} : pmtOk m (some (.dict o ks xs)) = decide (m = .get) := rfl
@[simp] theorem mtW_append : mtW .append = true := rfl
@[simp] theorem mtW_pop : mtW .pop = true := rfl
@[simp] theorem mtW_count : mtW .count = false := rfl
@[simp] theorem mtW_index : mtW .index = false := rfl
@[simp] theorem mtW_get : mtW .get = false := rfl
@[simp] theorem pw_append {xs : List PV} {y : PV} : pwrite .append (.lst true xs) [y] = pneed (xs.length < sizeLine) (.none, .lst true (xs ++ [y])) := rfl
@[simp] theorem pr_count {o : Bool} {xs : List PV} {k : Int} : pread .count (.lst o xs) [.int k] = (pInts xs).map fun ns => .int (ns.count k : Nat) := rfl
@[simp] theorem pset_nil {e : PEnv} : psetAll [] [] e = some e := rfl
@[simp] theorem pset_cons {i : Nat} {is : List Nat} {v : PV} {vs : List PV} {e : PEnv} : psetAll (i :: is) (v :: vs) e = psetAll is vs (e.set i (some v)) := rfl
@[simp] theorem psub_l {xs : List PV} {k : Int} {v : PV} : psub (.lst true xs) (.int k) v = (L2.ixN xs.length k).map fun j => .lst true (xs.set j v) := rfl
@[simp] theorem src_seqT {v : PV} : srcP .seq [⟨v, none⟩] = pItems .seq v.frz := rfl
@[simp] theorem it_tup {xs : List PV} : pItems .seq (.tup xs) = some xs := rfl
@[simp] theorem it_lst {o : Bool} {xs : List PV} : pItems .seq (.lst o xs) = some xs := rfl
theorem it_range {n : Nat} (h : n ≤ 1000000) : pItems .range (.tup [.int n]) = some ((List.range n).map fun (j : Nat) => PV.int (j : Int)) := by
  simp only [pItems]
  rw [if_pos (by omega), Int.toNat_natCast]
@[simp] theorem src_rangeT {v : PV} : srcP .range [⟨v, none⟩] = pItems .range (.tup [v]) := by
  unfold srcP
  simp only [p_tvals, p_tvals0, Option.map_some, Option.bind_some]
theorem src_range {n : Nat} (h : n ≤ 1000000) : srcP .range [⟨.int n, none⟩] = some ((List.range n).map fun (j : Nat) => PV.int (j : Int)) := by
  rw [src_rangeT]; exact it_range h
theorem line_le {n : Nat} (h : n ≤ 1000000) : n ≤ sizeLine := by rw [sizeLine_eq]; omega
theorem line_lt {n : Nat} (h : n ≤ 1000000) : n < sizeLine := by rw [sizeLine_eq]; omega
@[simp] theorem line0 : (0 ≤ sizeLine) = True := eq_true (Nat.zero_le _)
@[simp] theorem line1 : (1 ≤ sizeLine) = True := eq_true (line_le (by decide))
@[simp] theorem line2 : (2 ≤ sizeLine) = True := eq_true (line_le (by decide))
@[simp] theorem line3 : (3 ≤ sizeLine) = True := eq_true (line_le (by decide))
@[simp] theorem line4 : (4 ≤ sizeLine) = True := eq_true (line_le (by decide))
@[simp] theorem line5 : (5 ≤ sizeLine) = True := eq_true (line_le (by decide))
@[simp] theorem line6 : (6 ≤ sizeLine) = True := eq_true (line_le (by decide))
@[simp] theorem line7 : (7 ≤ sizeLine) = True := eq_true (line_le (by decide))
@[simp] theorem line8 : (8 ≤ sizeLine) = True := eq_true (line_le (by decide))
@[simp] theorem line9 : (9 ≤ sizeLine) = True := eq_true (line_le (by decide))
@[simp] theorem line10 : (10 ≤ sizeLine) = True := eq_true (line_le (by decide))
@[simp] theorem p_need {α : Type} {P : Prop} [Decidable P] {a : α} : pneed P a = if P then some a else none := rfl
@[simp] theorem lineL0 : (0 < sizeLine) = True := eq_true (line_lt (by decide))
@[simp] theorem lineL1 : (1 < sizeLine) = True := eq_true (line_lt (by decide))
@[simp] theorem lineL2 : (2 < sizeLine) = True := eq_true (line_lt (by decide))
@[simp] theorem lineL3 : (3 < sizeLine) = True := eq_true (line_lt (by decide))
@[simp] theorem lineL4 : (4 < sizeLine) = True := eq_true (line_lt (by decide))
@[simp] theorem lineL5 : (5 < sizeLine) = True := eq_true (line_lt (by decide))
@[simp] theorem lineL6 : (6 < sizeLine) = True := eq_true (line_lt (by decide))
@[simp] theorem lineL7 : (7 < sizeLine) = True := eq_true (line_lt (by decide))
@[simp] theorem lineL8 : (8 < sizeLine) = True := eq_true (line_lt (by decide))
@[simp] theorem lineL9 : (9 < sizeLine) = True := eq_true (line_lt (by decide))
@[simp] theorem lineL10 : (10 < sizeLine) = True := eq_true (line_lt (by decide))
@[simp] theorem lineL11 : (11 < sizeLine) = True := eq_true (line_lt (by decide))
@[simp] theorem lineL12 : (12 < sizeLine) = True := eq_true (line_lt (by decide))
@[simp] theorem line11 : (11 ≤ sizeLine) = True := eq_true (line_le (by decide))
@[simp] theorem line12 : (12 ≤ sizeLine) = True := eq_true (line_le (by decide))
@[simp] theorem line13 : (13 ≤ sizeLine) = True := eq_true (line_le (by decide))
@[simp] theorem line14 : (14 ≤ sizeLine) = True := eq_true (line_le (by decide))
@[simp] theorem line15 : (15 ≤ sizeLine) = True := eq_true (line_le (by decide))
@[simp] theorem line16 : (16 ≤ sizeLine) = True := eq_true (line_le (by decide))
@[simp] theorem line17 : (17 ≤ sizeLine) = True := eq_true (line_le (by decide))
@[simp] theorem line18 : (18 ≤ sizeLine) = True := eq_true (line_le (by decide))
@[simp] theorem line19 : (19 ≤ sizeLine) = True := eq_true (line_le (by decide))
@[simp] theorem line20 : (20 ≤ sizeLine) = True := eq_true (line_le (by decide))
@[simp] theorem line21 : (21 ≤ sizeLine) = True := eq_true (line_le (by decide))
@[simp] theorem isNil_nil : isNil .nil = true := rfl
@[simp] theorem isNil_var {i : Nat} : isNil (.var i) = false := rfl
@[simp] theorem isNil_int {i : Int} : isNil (.int_ i) = false := rfl
@[simp] theorem isNil_glob {x : Str} : isNil (.glob x) = false := rfl
@[simp] theorem isNil_bin {o : Bop} {a b : CE} : isNil (.bin o a b) = false := rfl
@[simp] theorem isNil_neg {a : CE} : isNil (.neg a) = false := rfl
@[simp] theorem isNil_cmp {o : Cop} {a b : CE} : isNil (.cmp o a b) = false := rfl
@[simp] theorem isNil_chain {o o2 : Cop} {a b c : CE} : isNil (.chain o o2 a b c) = false := rfl
@[simp] theorem isNil_and2 {a b : CE} : isNil (.and2 a b) = false := rfl
@[simp] theorem isNil_or2 {a b : CE} : isNil (.or2 a b) = false := rfl
@[simp] theorem isNil_not {a : CE} : isNil (.not_ a) = false := rfl
@[simp] theorem isNil_ifx {a b c : CE} : isNil (.ifx a b c) = false := rfl
@[simp] theorem isNil_ix {a b : CE} : isNil (.ix a b) = false := rfl
@[simp] theorem isNil_call {f : Str} {a : CE} : isNil (.call f a) = false := rfl
@[simp] theorem isNil_bi {f : Bi} {a : CE} : isNil (.bi f a) = false := rfl
@[simp] theorem isNil_isi {t : Ty} {a : CE} : isNil (.isi t a) = false := rfl
@[simp] theorem isNil_meth {m : Mt} {a b : CE} : isNil (.meth m a b) = false := rfl
/-! items by number -/
@[simp] theorem at_0 {α : Type} {a : α} {r : List α} : L2.atI (a :: r) 0 = some a := by
  unfold L2.atI L2.ixN
  simp
theorem at_nat {α : Type} {xs : List α} {k : Nat} {v : α} (h : xs[k]? = some v) : L2.atI xs (k : Int) = some v := by
  have hk : k < xs.length := (List.getElem?_eq_some_iff.mp h).1
  unfold L2.atI L2.ixN
  rw [if_pos (by omega), if_pos (by omega)]
  simpa using h
theorem at_last {α : Type} {xs : List α} {v : α} (h : xs.getLast? = some v) : L2.atI xs (-1) = some v := by
  have hp : 0 < xs.length := by
    cases xs with
    | nil => cases h
    | cons _ _ => simp
  unfold L2.atI L2.ixN
  rw [if_neg (by decide), if_pos (by omega)]
  have e : ((-1 : Int) + (xs.length : Int)).toNat = xs.length - 1 := by omega
  show xs[((-1 : Int) + (xs.length : Int)).toNat]? = some v
  rw [e, ← List.getLast?_eq_getElem?]
  exact h
@[simp] theorem at_1 {α : Type} {a b : α} {r : List α} : L2.atI (a :: b :: r) 1 = some b := at_nat (k := 1) rfl
@[simp] theorem at_2 {α : Type} {a b c : α} {r : List α} : L2.atI (a :: b :: c :: r) 2 = some c := at_nat (k := 2) rfl
@[simp] theorem at_3 {α : Type} {a b c d : α} {r : List α} : L2.atI (a :: b :: c :: d :: r) 3 = some d := at_nat (k := 3) rfl
@[simp] theorem at_4 {α : Type} {a b c d e : α} {r : List α} : L2.atI (a :: b :: c :: d :: e :: r) 4 = some e := at_nat (k := 4) rfl
@[simp] theorem at_5 {α : Type} {a b c d e f : α} {r : List α} : L2.atI (a :: b :: c :: d :: e :: f :: r) 5 = some f := at_nat (k := 5) rfl
@[simp] theorem at_6 {α : Type} {a b c d e f g : α} {r : List α} : L2.atI (a :: b :: c :: d :: e :: f :: g :: r) 6 = some g := at_nat (k := 6) rfl
@[simp] theorem at_m1 {α : Type} {a : α} : L2.atI [a] (-1) = some a := at_last rfl
@[simp] theorem at_m2 {α : Type} {a b : α} : L2.atI [a, b] (-1) = some b := at_last rfl
@[simp] theorem at_m3 {α : Type} {a b c : α} : L2.atI [a, b, c] (-1) = some c := at_last rfl
@[simp] theorem at_m5 {α : Type} {a b c d e : α} : L2.atI [a, b, c, d, e] (-1) = some e := at_last rfl
@[simp] theorem at_m7 {α : Type} {a b c d e f g : α} : L2.atI [a, b, c, d, e, f, g] (-1) = some g := at_last rfl
/-! loops -/
theorem for_nil {is : List Nat} {b : PEnv → PR PFlow} {e : PEnv} : forP is b [] e = .ok .next e := rfl
theorem for_cons {is : List Nat} {b : PEnv → PR PFlow} {x : PV} {xs : List PV} {e e1 e2 : PEnv} (h : pbindTo is x e = some e1) (h2 : b e1 = .ok .next e2) : forP is b (x :: xs) e = forP is b xs e2 := by
  show (match pbindTo is x e with
    | some env1 => (b env1).bindX fun p e2 => (match p with
      | .next => forP is b xs e2
      | .cont => forP is b xs e2
      | .brk => .ok .next e2
      | .ret v => .ok (.ret v) e2)
    | none => .stuck) = _
  rw [h]
  show (b e1).bindX _ = _
  rw [h2]; rfl
theorem for_ret {is : List Nat} {b : PEnv → PR PFlow} {x v : PV} {xs : List PV} {e e1 e2 : PEnv} (h : pbindTo is x e = some e1) (h2 : b e1 = .ok (.ret v) e2) : forP is b (x :: xs) e = .ok (.ret v) e2 := by
  show (match pbindTo is x e with
    | some env1 => (b env1).bindX fun p e2 => (match p with
      | .next => forP is b xs e2
      | .cont => forP is b xs e2
      | .brk => .ok .next e2
      | .ret v => .ok (.ret v) e2)
    | none => .stuck) = _
  rw [h]
  show (b e1).bindX _ = _
  rw [h2]; rfl
theorem for_exc {is : List Nat} {b : PEnv → PR PFlow} {x v : PV} {c : Str} {xs : List PV} {e e1 e2 : PEnv} (h : pbindTo is x e = some e1) (h2 : b e1 = .exc c v e2) : forP is b (x :: xs) e = .exc c v e2 := by
  show (match pbindTo is x e with
    | some env1 => (b env1).bindX fun p e2 => (match p with
      | .next => forP is b xs e2
      | .cont => forP is b xs e2
      | .brk => .ok .next e2
      | .ret v => .ok (.ret v) e2)
    | none => .stuck) = _
  rw [h]
  show (b e1).bindX _ = _
  rw [h2]; rfl
/-- a loop by its slots before each turn -/
theorem for_by {α : Type} {is : List Nat} {b : PEnv → PR PFlow} (enc : α → PV) (S : List α → PEnv) (hs : ∀ (pre : List α) (a : α), ∃ e1, pbindTo is (enc a) (S pre) = some e1 ∧ b e1 = .ok .next (S (pre ++ [a]))) : ∀ (xs pre : List α), forP is b (xs.map enc) (S pre) = .ok .next (S (pre ++ xs))
  | [], pre => by rw [List.append_nil]; rfl
  | x :: xs, pre => by
    obtain ⟨e1, h1, h2⟩ := hs pre x
    rw [List.map_cons, for_cons h1 h2, for_by enc S hs xs (pre ++ [x]), List.append_assoc]; rfl
theorem while_step {c : PEnv → PR Bool} {b : PEnv → PR PFlow} {n : Nat} {e e1 e2 : PEnv} (h : c e = .ok true e1) (h2 : b e1 = .ok .next e2) : whileP c b (n + 1) e = whileP c b n e2 := by
  show ((c e).bind fun t e1 => if t = true then ((b e1).bind fun p e2 => match p with
      | .next => whileP c b n e2
      | .cont => whileP c b n e2
      | .brk => .ok .next e2
      | .ret v => .ok (.ret v) e2) else .ok .next e1) = _
  rw [h]
  show ((b e1).bind _) = _
  rw [h2]; rfl
theorem while_end {c : PEnv → PR Bool} {b : PEnv → PR PFlow} {n : Nat} {e e1 : PEnv} (h : c e = .ok false e1) : whileP c b (n + 1) e = .ok .next e1 := by
  show ((c e).bind fun t e1 => if t = true then ((b e1).bind fun p e2 => match p with
      | .next => whileP c b n e2
      | .cont => whileP c b n e2
      | .brk => .ok .next e2
      | .ret v => .ok (.ret v) e2) else .ok .next e1) = _
  rw [h]; rfl
theorem while_ret {c : PEnv → PR Bool} {b : PEnv → PR PFlow} {n : Nat} {e e1 e2 : PEnv} {v : PV} (h : c e = .ok true e1) (h2 : b e1 = .ok (.ret v) e2) : whileP c b (n + 1) e = .ok (.ret v) e2 := by
  show ((c e).bind fun t e1 => if t = true then ((b e1).bind fun p e2 => match p with
      | .next => whileP c b n e2
      | .cont => whileP c b n e2
      | .brk => .ok .next e2
      | .ret v => .ok (.ret v) e2) else .ok .next e1) = _
  rw [h]
  show ((b e1).bind _) = _
  rw [h2]; rfl
theorem comp_nil {f : PV → PEnv → PR (Option PV)} {acc : List PV} {e : PEnv} : compP f [] acc e = .ok acc e := rfl
theorem comp_some {f : PV → PEnv → PR (Option PV)} {x y : PV} {xs acc : List PV} {e e1 : PEnv} (h : f x e = .ok (some y) e1) (hl : acc.length < sizeLine) : compP f (x :: xs) acc e = compP f xs (acc ++ [y]) e1 := by
  show ((f x e).bind fun o e1 => match o with
    | none => compP f xs acc e1
    | some y => if acc.length < sizeLine then compP f xs (acc ++ [y]) e1 else .stuck) = _
  rw [h]
  show (if acc.length < sizeLine then compP f xs (acc ++ [y]) e1 else .stuck) = _
  rw [if_pos hl]
theorem comp_none {f : PV → PEnv → PR (Option PV)} {x : PV} {xs acc : List PV} {e e1 : PEnv} (h : f x e = .ok none e1) : compP f (x :: xs) acc e = compP f xs acc e1 := by
  show ((f x e).bind fun o e1 => match o with
    | none => compP f xs acc e1
    | some y => if acc.length < sizeLine then compP f xs (acc ++ [y]) e1 else .stuck) = _
  rw [h]; rfl
/-- every item gives one: the slots before each turn -/
theorem comp_by {α : Type} {f : PV → PEnv → PR (Option PV)} (enc : α → PV) (g : List α → α → PV) (S : List α → PEnv) (hs : ∀ (pre : List α) (a : α), f (enc a) (S pre) = .ok (some (g pre a)) (S (pre ++ [a]))) :
    ∀ (xs pre : List α) (acc : List PV), acc.length + xs.length ≤ 1000000 → ∃ ys : List PV, compP f (xs.map enc) acc (S pre) = .ok (acc ++ ys) (S (pre ++ xs)) ∧ ys.length = xs.length ∧ ∀ i a, xs[i]? = some a → ys[i]? = some (g (pre ++ xs.take i) a)
  | [], pre, acc, _ => ⟨[], by rw [List.append_nil, List.append_nil]; rfl, rfl, fun i a h => by simp at h⟩
  | x :: xs, pre, acc, hl => by
    obtain ⟨ys, h1, h2, h3⟩ := comp_by enc g S hs xs (pre ++ [x]) (acc ++ [g pre x]) (by simp at hl ⊢; omega)
    refine ⟨g pre x :: ys, ?_, by simp [h2], fun i a h => ?_⟩
    · rw [List.map_cons, comp_some (hs pre x) (line_lt (by simp at hl; omega)), h1]
      simp
    · cases i with
      | zero => simp at h; subst h; simp
      | succ i => simpa using h3 i a (by simpa using h)
/-- .. where the slots stay -/
theorem comp_map {α : Type} {f : PV → PEnv → PR (Option PV)} (enc g : α → PV) {e : PEnv} {S : PEnv} : ∀ (xs : List α) (acc : List PV), (∀ a ∈ xs, f (enc a) e = .ok (some (g a)) S ∧ f (enc a) S = .ok (some (g a)) S) → acc.length + xs.length ≤ 1000000 → compP f (xs.map enc) acc e = .ok (acc ++ xs.map g) (if xs = [] then e else S)
  | [], acc, _, _ => by simp [comp_nil]
  | x :: xs, acc, hs, hl => by
    rw [List.map_cons, comp_some (hs x List.mem_cons_self).1 (line_lt (by simp at hl; omega))]
    have := comp_map enc g (e := S) (S := S) xs (acc ++ [g x]) (fun a ha => ⟨(hs a (List.mem_cons_of_mem _ ha)).2, (hs a (List.mem_cons_of_mem _ ha)).2⟩) (by simp at hl ⊢; omega)
    rw [this]
    simp
end Ev

set_option Elab.async false
set_option linter.all false
set_option maxRecDepth 100000
set_option maxHeartbeats 1000000
/-! ## A table's defs, plainly -/
namespace Ev
open PySem
inductive AllGP : List (Str × Val) → List (Str × PV) → Prop
  | nil : AllGP [] []
  | cons {x : Str} {w : Val} {v : PV} {a : List (Str × Val)} {b : List (Str × PV)} : (∀ st Z, Rep st Z w v z0) → AllGP a b → AllGP ((x, w) :: a) ((x, v) :: b)
theorem AllGP.at_ : ∀ {a : List (Str × Val)} {b : List (Str × PV)} {x : Str} {v : PV}, AllGP a b → b.lookup x = some v → ∃ w, a.lookup x = some w ∧ ∀ st Z, Rep st Z w v z0
  | _, _, x, v, .nil, h => by cases h
  | _, _, x, v, .cons (x := y) (w := w) (v := u) (a := a) (b := b) r t, h => by
    rw [List.lookup_cons] at h ⊢
    cases q : x == y with
    | true => rw [q] at h; cases h; exact ⟨w, rfl, r⟩
    | false => rw [q] at h; exact t.at_ h
theorem wf_all : ∀ {T : Tab}, (T.all fun fd => wfS fd.2.body) = true → ∀ f d, T.lookup f = some d → wfS d.body = true
  | [], _, f, d, e => by cases e
  | (g, d') :: T, h, f, d, e => by
    rw [List.all_cons, Bool.and_eq_true] at h
    rw [List.lookup_cons] at e
    cases q : f == g with
    | true => rw [q] at e; cases e; exact h.1
    | false => rw [q] at e; exact wf_all h.2 f d e
/-- a def's end: what it answers, what came of the things it may change -/
noncomputable def endP (b : Bool) (ms : List Bool) (r : PR PFlow) : PC := finP b (match r with
    | .ok (.ret v) e1 => (match outsOf ms e1 with | some os => .ok v os | none => .stuck)
    | .ok .next e1 => (match outsOf ms e1 with | some os => .ok .none os | none => .stuck)
    | .exc c v e1 => (match outsOf ms e1 with | some os => .exc c v os | none => .stuck)
    | _ => .stuck)
@[simp] theorem outs_nil {e : PEnv} : outsOf [] e = some [] := by cases e <;> rfl
@[simp] theorem outs_t {ms : List Bool} {v : PV} {e : PEnv} : outsOf (true :: ms) (some v :: e) = (outsOf ms e).map (v :: ·) := rfl
@[simp] theorem outs_f {ms : List Bool} {x : Option PV} {e : PEnv} : outsOf (false :: ms) (x :: e) = outsOf ms e := rfl
@[simp] theorem end_ret {b : Bool} {ms : List Bool} {v : PV} {e : PEnv} : endP b ms (.ok (.ret v) e) = (match outsOf ms e with | some os => .ok v os | none => .stuck) := by
  show finP b (match outsOf ms e with | some os => PC.ok v os | none => .stuck) = _
  cases outsOf ms e <;> rfl
@[simp] theorem end_next {b : Bool} {ms : List Bool} {e : PEnv} : endP b ms (.ok .next e) = (match outsOf ms e with | some os => .ok .none os | none => .stuck) := by
  show finP b (match outsOf ms e with | some os => PC.ok .none os | none => .stuck) = _
  cases outsOf ms e <;> rfl
@[simp] theorem end_exc {b : Bool} {ms : List Bool} {c : Str} {v : PV} {e : PEnv} : endP b ms (.exc c v e) = (match outsOf ms e with | some os => if b = true then .exc c v os else .stuck | none => .stuck) := by
  show finP b (match outsOf ms e with | some os => PC.exc c v os | none => .stuck) = _
  cases outsOf ms e <;> rfl
@[simp] theorem end_ite {b : Bool} {ms : List Bool} {c : Prop} [Decidable c] {x y : PR PFlow} : endP b ms (if c then x else y) = if c then endP b ms x else endP b ms y := by split <;> rfl
theorem run_of {T : Tab} {gp : Str → Option PV} {io : Str → List Bool} {W n : Nat} {f : Str} {d : Def} {ms : List Bool} {args : List PV} {env : PEnv} (hl : T.lookup f = some d) (hio : io f = ms) (h1 : args.length = d.params) (h2 : (decide (ms.length ≤ d.params) && ioSet 0 ms d.body) = true) (he : args.map some ++ List.replicate (d.names.length - args.length) none = env) {b : Bool} (hb : canRS d.body = b) :
    callP T gp io W (n + 1) f args = endP b ms (evalPS ⟨callP T gp io W n, gp, W, hasN T n, io⟩ d.body env) := by
  have e1 : callP T gp io W (n + 1) f args = (match T.lookup f with
      | some d => finP (canB T f) (runP ⟨callP T gp io W n, gp, W, hasN T n, io⟩ (io f) d args)
      | none => .stuck) := rfl
  rw [e1, hl]
  have h2 := Bool.and_eq_true_iff.mp h2
  have e2 : canB T f = b := by unfold canB; rw [hl]; exact hb
  dsimp only
  rw [e2, hio]
  unfold runP
  rw [if_pos ⟨h1, of_decide_eq_true h2.1, h2.2⟩, he]
  rfl
theorem has_of {T : Tab} {n : Nat} {f : Str} {d : Def} (h : T.lookup f = some d) : hasN T (n + 1) f = true := by
  unfold hasN; rw [h]; simp
end Ev

set_option Elab.async false
set_option linter.all false
set_option maxRecDepth 100000
set_option maxHeartbeats 1000000
/-! ## Loops, comprehensions: their slots turn by turn -/
namespace Ev
open PySem
noncomputable def compR (f : PV → PEnv → PR (Option PV)) (i : Nat) (xs : List PV) (e1 : PEnv) : PR (List BV) := (compP f xs [] e1).bind fun acc e2 => .ok [⟨.lst true acc, none⟩] (e2.set i (back e1 i))
@[simp] theorem pe_compR {F : PFns} {m : Md} {env : PEnv} {k : Src} {i : Nat} {src cond elt : CE} : evalP F (.comp k i src cond elt) m env = (evalP F src .sh env).bind fun vs e1 => (match srcP k vs with
      | some xs => compR (stepP F i cond elt) i xs e1
      | none => .stuck) := rfl
@[simp] theorem back_eq {e : PEnv} {i : Nat} : back e i = match e[i]? with | some (some v) => if v.noO = true then some v else none | _ => none := rfl
theorem step_0 {F : PFns} {i : Nat} {elt : CE} {x : PV} {e : PEnv} : stepP F i .nil elt x e = (evalP F elt .sh (e.set i (some x))).bind fun ys e3 => tone ys fun y => .ok (some y) e3 := rfl
theorem step_1 {F : PFns} {i : Nat} {cond elt : CE} {x : PV} {e : PEnv} (h : isNil cond = false) : stepP F i cond elt x e = (evalP F cond .bo (e.set i (some x))).bind fun ts e2 => one ts fun t => (tests t e2).bind fun b e3 => if b = true then (evalP F elt .sh (e3.set i (some x))).bind fun ys e4 => tone ys fun y => .ok (some y) e4 else .ok none e3 := by
  unfold stepP; rw [if_neg (by simp [h])]
/-- items with a state: the slots before each turn, but the comprehension's own -/
theorem comp_st {σ : Type} {f : PV → PEnv → PR (Option PV)} {i : Nat} (E : σ → PEnv) (P : PV → Prop) (R : σ → σ → Prop) (rt : ∀ a b c, R a b → R b c → R a c) : ∀ (xs : List PV) (s : σ) (acc : List PV) (w : Option PV), (∀ x ∈ xs, ∀ s', (s' = s ∨ R s s') → ∃ y s2, P y ∧ R s' s2 ∧ ∀ w, ∃ w', f x ((E s').set i w) = .ok (some y) ((E s2).set i w')) → acc.length + xs.length ≤ 1000000 →
    ∃ ys s2 w', compP f xs acc ((E s).set i w) = .ok (acc ++ ys) ((E s2).set i w') ∧ ys.length = xs.length ∧ (∀ y ∈ ys, P y) ∧ (xs = [] ∧ s2 = s ∨ R s s2)
  | [], s, acc, w, _, _ => ⟨[], s, w, by rw [List.append_nil]; rfl, rfl, by simp, .inl ⟨rfl, rfl⟩⟩
  | x :: xs, s, acc, w, h, hl => by
    obtain ⟨y, s2, hp, hr, hf⟩ := h x List.mem_cons_self s (.inl rfl)
    obtain ⟨w', hf⟩ := hf w
    obtain ⟨ys, s3, w3, h1, h2, h3, h4⟩ := comp_st E P R rt xs s2 (acc ++ [y]) w' (fun x' hx s' hs => h x' (List.mem_cons_of_mem _ hx) s' (.inr (hs.elim (fun z => z ▸ hr) fun hs => rt _ _ _ hr hs))) (by simp at hl ⊢; omega)
    refine ⟨y :: ys, s3, w3, ?_, by simp [h2], fun z hz => ?_, .inr ?_⟩
    · rw [comp_some hf (line_lt (by simp at hl; omega)), h1]; simp
    · rcases List.mem_cons.mp hz with rfl | hz
      · exact hp
      · exact h3 z hz
    · rcases h4 with ⟨_, rfl⟩ | h4
      · exact hr
      · exact rt _ _ _ hr h4
theorem set_self {e : PEnv} {i : Nat} (hi : i < e.length) : e.set i e[i] = e := List.set_getElem_self hi
/-- .. each item gives one that is known, the slots stay -/
theorem comp_is {α : Type} {f : PV → PEnv → PR (Option PV)} {i : Nat} {e : PEnv} (enc g : α → PV) (hi : i < e.length) : ∀ (xs : List α), xs.length ≤ 1000000 → (∀ a ∈ xs, ∀ w, ∃ w', f (enc a) (e.set i w) = .ok (some (g a)) (e.set i w')) → compR f i (xs.map enc) e = .ok [⟨.lst true (xs.map g), none⟩] (e.set i (back e i)) := by
  have key : ∀ (xs : List α) (acc : List PV) (w : Option PV), acc.length + xs.length ≤ 1000000 → (∀ a ∈ xs, ∀ w, ∃ w', f (enc a) (e.set i w) = .ok (some (g a)) (e.set i w')) → ∃ w', compP f (xs.map enc) acc (e.set i w) = .ok (acc ++ xs.map g) (e.set i w') := by
    intro xs
    induction xs with
    | nil => intro acc w _ _; exact ⟨w, by simp [comp_nil]⟩
    | cons x xs ih =>
      intro acc w hl hs
      obtain ⟨w1, h1⟩ := hs x List.mem_cons_self w
      obtain ⟨w2, h2⟩ := ih (acc ++ [g x]) w1 (by simp at hl ⊢; omega) fun a ha => hs a (List.mem_cons_of_mem _ ha)
      exact ⟨w2, by rw [List.map_cons, comp_some h1 (line_lt (by simp at hl; omega)), h2]; simp⟩
  intro xs hl hs
  obtain ⟨w, h⟩ := key xs [] e[i] (by simpa using hl) hs
  rw [set_self hi] at h
  unfold compR
  rw [h]
  show PR.ok _ ((e.set i w).set i (back e i)) = _
  rw [List.set_set]; rfl
/-- .. with a test -/
theorem comp_if {α : Type} {f : PV → PEnv → PR (Option PV)} {i : Nat} {e : PEnv} (enc g : α → PV) (t : α → Bool) (hi : i < e.length) : ∀ (xs : List α), xs.length ≤ 1000000 → (∀ a ∈ xs, ∀ w, ∃ w', f (enc a) (e.set i w) = .ok (if t a = true then some (g a) else none) (e.set i w')) → compR f i (xs.map enc) e = .ok [⟨.lst true ((xs.filter t).map g), none⟩] (e.set i (back e i)) := by
  have key : ∀ (xs : List α) (acc : List PV) (w : Option PV), acc.length + xs.length ≤ 1000000 → (∀ a ∈ xs, ∀ w, ∃ w', f (enc a) (e.set i w) = .ok (if t a = true then some (g a) else none) (e.set i w')) → ∃ w', compP f (xs.map enc) acc (e.set i w) = .ok (acc ++ (xs.filter t).map g) (e.set i w') := by
    intro xs
    induction xs with
    | nil => intro acc w _ _; exact ⟨w, by simp [comp_nil]⟩
    | cons x xs ih =>
      intro acc w hl hs
      obtain ⟨w1, h1⟩ := hs x List.mem_cons_self w
      cases ht : t x with
      | true =>
        rw [ht, if_pos rfl] at h1
        obtain ⟨w2, h2⟩ := ih (acc ++ [g x]) w1 (by simp at hl ⊢; omega) fun a ha => hs a (List.mem_cons_of_mem _ ha)
        exact ⟨w2, by rw [List.map_cons, comp_some h1 (line_lt (by simp at hl; omega)), h2]; simp [ht]⟩
      | false =>
        rw [ht] at h1
        obtain ⟨w2, h2⟩ := ih acc w1 (by simp at hl ⊢; omega) fun a ha => hs a (List.mem_cons_of_mem _ ha)
        exact ⟨w2, by rw [List.map_cons, comp_none (by simpa using h1), h2]; simp [ht]⟩
  intro xs hl hs
  obtain ⟨w, h⟩ := key xs [] e[i] (by simpa using hl) hs
  rw [set_self hi] at h
  unfold compR
  rw [h]
  show PR.ok _ ((e.set i w).set i (back e i)) = _
  rw [List.set_set]; rfl
theorem compR_st {σ : Type} {f : PV → PEnv → PR (Option PV)} {i : Nat} (E : σ → PEnv) (P : PV → Prop) (R : σ → σ → Prop) (rt : ∀ a b c, R a b → R b c → R a c) (xs : List PV) (s : σ) (hi : i < (E s).length) (h : ∀ x ∈ xs, ∀ s', (s' = s ∨ R s s') → ∃ y s2, P y ∧ R s' s2 ∧ ∀ w, ∃ w', f x ((E s').set i w) = .ok (some y) ((E s2).set i w')) (hl : xs.length ≤ 1000000) :
    ∃ ys s2, compR f i xs (E s) = .ok [⟨.lst true ys, none⟩] ((E s2).set i (back (E s) i)) ∧ ys.length = xs.length ∧ (∀ y ∈ ys, P y) ∧ (xs = [] ∧ s2 = s ∨ R s s2) := by
  obtain ⟨ys, s2, w', h1, h2, h3, h4⟩ := comp_st E P R rt xs s [] (E s)[i] h (by simpa using hl)
  rw [set_self hi] at h1
  refine ⟨ys, s2, ?_, h2, h3, h4⟩
  unfold compR
  rw [h1]
  show PR.ok _ (((E s2).set i w').set i (back (E s) i)) = _
  rw [List.set_set]; rfl
theorem compR_inv {σ : Type} {f : PV → PEnv → PR (Option PV)} {i : Nat} (E : σ → PEnv) (P : PV → Prop) (I : Nat → σ → Prop) (xs : List PV) (hs : ∀ (j : Nat) (x : PV) (s : σ), xs[j]? = some x → I j s → ∃ y s2, P y ∧ I (j + 1) s2 ∧ ∀ w, ∃ w', f x ((E s).set i w) = .ok (some y) ((E s2).set i w')) (s : σ) (h0 : I 0 s) (hi : i < (E s).length) (hl : xs.length ≤ 1000000) :
    ∃ ys s2, compR f i xs (E s) = .ok [⟨.lst true ys, none⟩] ((E s2).set i (back (E s) i)) ∧ ys.length = xs.length ∧ (∀ y ∈ ys, P y) ∧ I xs.length s2 := by
  have key : ∀ (zs pre : List PV) (s : σ) (acc : List PV) (w : Option PV), pre ++ zs = xs → I pre.length s → acc.length + zs.length ≤ 1000000 → ∃ ys s2 w', compP f zs acc ((E s).set i w) = .ok (acc ++ ys) ((E s2).set i w') ∧ ys.length = zs.length ∧ (∀ y ∈ ys, P y) ∧ I xs.length s2 := by
    intro zs
    induction zs with
    | nil =>
      intro pre s acc w e hI _
      rw [List.append_nil] at e
      subst e
      exact ⟨[], s, w, by rw [List.append_nil]; rfl, rfl, by simp, hI⟩
    | cons z zs ih =>
      intro pre s acc w e hI hl
      obtain ⟨y, s2, hp, hI2, hf⟩ := hs pre.length z s (by rw [← e]; simp) hI
      obtain ⟨w', hf⟩ := hf w
      obtain ⟨ys, s3, w3, h1, h2, h3, h4⟩ := ih (pre ++ [z]) s2 (acc ++ [y]) w' (by simpa using e) (by simpa using hI2) (by simp at hl ⊢; omega)
      refine ⟨y :: ys, s3, w3, ?_, by simp [h2], fun q hq => ?_, h4⟩
      · rw [comp_some hf (line_lt (by simp at hl; omega)), h1]; simp
      · rcases List.mem_cons.mp hq with rfl | hq
        · exact hp
        · exact h3 q hq
  obtain ⟨ys, s2, w', h1, h2, h3, h4⟩ := key xs [] s [] (E s)[i] rfl h0 (by simpa using hl)
  rw [set_self hi] at h1
  refine ⟨ys, s2, ?_, h2, h3, h4⟩
  unfold compR
  rw [h1]
  show PR.ok _ (((E s2).set i w').set i (back (E s) i)) = _
  rw [List.set_set]; rfl
theorem for_inv {is : List Nat} {b : PEnv → PR PFlow} (I : Nat → PEnv → Prop) (xs : List PV) (hs : ∀ (j : Nat) (x : PV) (e : PEnv), xs[j]? = some x → I j e → ∃ e1 e2, pbindTo is x e = some e1 ∧ b e1 = .ok .next e2 ∧ I (j + 1) e2) (e : PEnv) (h0 : I 0 e) : ∃ e', forP is b xs e = .ok .next e' ∧ I xs.length e' := by
  have key : ∀ (zs pre : List PV) (e : PEnv), pre ++ zs = xs → I pre.length e → ∃ e', forP is b zs e = .ok .next e' ∧ I xs.length e' := by
    intro zs
    induction zs with
    | nil =>
      intro pre e q hI
      rw [List.append_nil] at q
      subst q
      exact ⟨e, rfl, hI⟩
    | cons z zs ih =>
      intro pre e q hI
      obtain ⟨e1, e2, h1, h2, h3⟩ := hs pre.length z e (by rw [← q]; simp) hI
      rw [for_cons h1 h2]
      exact ih (pre ++ [z]) e2 (by simpa using q) (by simpa using h3)
  exact key xs [] e rfl h0
theorem seq_ok {F : PFns} {s r : CS} {e e1 : PEnv} (h : evalPS F s e = .ok .next e1) : evalPS F (.seq s r) e = evalPS F r e1 := by rw [ps_seq, h]; rfl
theorem ne_same {a b : PV} {d : PyData} (h1 : pD eqDeep a = some d) (h2 : pD eqDeep b = some d) (hs : SeqAt.shaped d = true) (h3 : pscal a b = none) : pcmp .ne a b = some (.bool false) := by
  show (peqM a b).map (fun r => PV.bool (!r)) = _
  have : peqM a b = some true := by
    unfold peqM
    rw [h3, h1, h2]
    simp only
    rw [if_pos ⟨hs, hs⟩, SeqAt.eqv_refl d (by unfold SeqAt.shaped at hs; rw [Bool.and_eq_true] at hs; exact hs.1)]
  rw [this]; rfl
theorem eq_same {a b : PV} {d : PyData} (h1 : pD eqDeep a = some d) (h2 : pD eqDeep b = some d) (hs : SeqAt.shaped d = true) (h3 : pscal a b = none) : pcmp .eq a b = some (.bool true) := by
  show (peqM a b).map PV.bool = _
  have : peqM a b = some true := by
    unfold peqM
    rw [h3, h1, h2]
    simp only
    rw [if_pos ⟨hs, hs⟩, SeqAt.eqv_refl d (by unfold SeqAt.shaped at hs; rw [Bool.and_eq_true] at hs; exact hs.1)]
  rw [this]; rfl
end Ev

set_option Elab.async false
set_option linter.all false
set_option maxRecDepth 100000
set_option maxHeartbeats 0
namespace Ev
open PySem
/-! ### texts of the program -/
/-! ### the defs of the program, as core terms -/
def c_is_number : Def := ⟨3, ["thing", "least", "most"], (.seq (.ret (.and2 (.isi .int (.var 0)) (.and2 (.not_ (.isi .bool (.var 0))) (.and1 (.chain .le .le (.var 1) (.var 0) (.var 2)))))) .skip)⟩
def c_is_turn : Def := ⟨1, ["thing"], (.seq (.ret (.and2 (.isi .str (.var 0)) (.and1 (.cmp .isin (.var 0) (.glob s_TURNS))))) .skip)⟩
def c_is_race : Def := ⟨2, ["thing", "room"], (.seq (.if_ (.or2 (.not_ (.call f_is_shape (.cons (.ix (.var 0) (.int_ 1)) (.cons (.var 1) .nil)))) (.or1 (.not_ (.call f_is_number (.cons (.ix (.var 0) (.int_ 2)) (.cons (.int_ 1) (.cons (.glob s_MOST_GOAL) .nil))))))) (.seq (.ret (.bool_ false)) .skip) .skip) (.seq (.ret (.and2 (.call f_is_number (.cons (.ix (.var 0) (.int_ 3)) (.cons (.int_ 1) (.cons (.glob s_MOST_LEAD) .nil)))) (.and1 (.call f_is_turn (.cons (.ix (.var 0) (.neg (.int_ 1))) .nil))))) .skip))⟩
def c_is_tied : Def := ⟨2, ["thing", "room"], (.seq (.if_ (.or2 (.not_ (.call f_is_race (.cons (.var 0) (.cons (.var 1) .nil)))) (.or2 (.not_ (.call f_is_number (.cons (.ix (.var 0) (.int_ 4)) (.cons (.int_ 1) (.cons (.glob s_MOST_GOAL) .nil))))) (.or1 (.not_ (.call f_is_shape (.cons (.ix (.var 0) (.int_ 5)) (.cons (.var 1) .nil))))))) (.seq (.ret (.bool_ false)) .skip) .skip) (.seq (.ret (.or2 (.cmp .gt (.ix (.var 0) (.int_ 3)) (.int_ 1)) (.or1 (.cmp .lt (.ix (.var 0) (.int_ 4)) (.ix (.var 0) (.int_ 2)))))) .skip))⟩
def c_is_series : Def := ⟨2, ["thing", "room", "one"], (.seq (.if_ (.or2 (.not_ (.isi .tuple (.ix (.var 0) (.int_ 1)))) (.or2 (.cmp .notin (.bi .len (.cons (.ix (.var 0) (.int_ 1)) .nil)) (.glob s_SERIES)) (.or1 (.not_ (.call f_is_turn (.cons (.ix (.var 0) (.int_ 2)) .nil)))))) (.seq (.ret (.bool_ false)) .skip) .skip) (.seq (.ret (.bi .all (.cons (.comp .seq 2 (.ix (.var 0) (.int_ 1)) .nil (.call f_is_shape (.cons (.var 2) (.cons (.var 1) .nil)))) .nil))) .skip))⟩
def c_is_shape : Def := ⟨2, ["thing", "room"], (.seq (.if_ (.or2 (.cmp .eq (.var 1) (.int_ 0)) (.or2 (.not_ (.isi .tuple (.var 0))) (.or2 (.cmp .eq (.var 0) (.tup .nil)) (.or1 (.not_ (.isi .str (.ix (.var 0) (.int_ 0)))))))) (.seq (.ret (.bool_ false)) .skip) .skip) (.seq (.if_ (.cmp .eq (.ix (.var 0) (.int_ 0)) (.str_ s_point)) (.seq (.ret (.cmp .eq (.bi .len (.cons (.var 0) .nil)) (.int_ 1))) .skip) .skip) (.seq (.if_ (.cmp .eq (.ix (.var 0) (.int_ 0)) (.str_ s_race)) (.seq (.ret (.and2 (.cmp .eq (.bi .len (.cons (.var 0) .nil)) (.int_ 5)) (.and1 (.call f_is_race (.cons (.var 0) (.cons (.bin .sub (.var 1) (.int_ 1)) .nil)))))) .skip) .skip) (.seq (.if_ (.cmp .eq (.ix (.var 0) (.int_ 0)) (.str_ s_tied)) (.seq (.ret (.and2 (.cmp .eq (.bi .len (.cons (.var 0) .nil)) (.int_ 7)) (.and1 (.call f_is_tied (.cons (.var 0) (.cons (.bin .sub (.var 1) (.int_ 1)) .nil)))))) .skip) .skip) (.seq (.ret (.and2 (.cmp .eq (.ix (.var 0) (.int_ 0)) (.str_ s_series)) (.and2 (.cmp .eq (.bi .len (.cons (.var 0) .nil)) (.int_ 3)) (.and1 (.call f_is_series (.cons (.var 0) (.cons (.bin .sub (.var 1) (.int_ 1)) .nil))))))) .skip)))))⟩
def c_parts : Def := ⟨1, ["form"], (.seq (.if_ (.cmp .eq (.ix (.var 0) (.int_ 0)) (.str_ s_point)) (.seq (.ret (.lst .nil)) .skip) .skip) (.seq (.if_ (.cmp .eq (.ix (.var 0) (.int_ 0)) (.str_ s_series)) (.seq (.ret (.bi .list (.cons (.ix (.var 0) (.int_ 1)) .nil))) .skip) .skip) (.seq (.ret (.ifx (.cmp .eq (.ix (.var 0) (.int_ 0)) (.str_ s_race)) (.lst (.cons (.ix (.var 0) (.int_ 1)) .nil)) (.lst (.cons (.ix (.var 0) (.int_ 1)) (.cons (.ix (.var 0) (.int_ 5)) .nil))))) .skip)))⟩
def c_size_of : Def := ⟨1, ["form", "one"], (.seq (.ret (.bin .add (.int_ 1) (.bi .sum (.cons (.comp .seq 1 (.call f_parts (.cons (.var 0) .nil)) .nil (.call f_size_of (.cons (.var 1) .nil))) .nil)))) .skip)⟩
def c_deep_of : Def := ⟨1, ["form", "one"], (.seq (.ret (.bin .add (.int_ 1) (.bi .max (.cons (.bin .add (.lst (.cons (.int_ 0) .nil)) (.comp .seq 1 (.call f_parts (.cons (.var 0) .nil)) .nil (.call f_deep_of (.cons (.var 1) .nil)))) .nil)))) .skip)⟩
def c_is_form : Def := ⟨1, ["thing"], (.seq (.ret (.and2 (.call f_is_shape (.cons (.var 0) (.cons (.glob s_MOST_DEEP) .nil))) (.and1 (.cmp .le (.call f_size_of (.cons (.var 0) .nil)) (.glob s_MOST_SIZE))))) .skip)⟩
def c_look_form : Def := ⟨1, ["form"], (.seq (.if_ (.not_ (.call f_is_form (.cons (.var 0) .nil))) (.seq (.raise0 "BadForm") .skip) .skip) .skip)⟩
def c_deep : Def := ⟨1, ["form"], (.seq (.expr (.call f_look_form (.cons (.var 0) .nil))) (.seq (.ret (.call f_deep_of (.cons (.var 0) .nil))) .skip))⟩
def c_size : Def := ⟨1, ["form"], (.seq (.expr (.call f_look_form (.cons (.var 0) .nil))) (.seq (.ret (.call f_size_of (.cons (.var 0) .nil))) .skip))⟩
def c__law_cell : Def := ⟨2, ["script", "k"], (.seq (.if_ (.var 0) (.seq (.ret (.ix (.var 0) (.bin .mod (.var 1) (.bi .len (.cons (.var 0) .nil))))) .skip) .skip) (.seq (.ret (.int_ 0)) .skip))⟩
def c__law_mix : Def := ⟨2, ["script", "k", "number"], (.seq (.set 2 (.bin .mod (.bin .add (.call f__law_cell (.cons (.var 0) (.cons (.var 1) .nil))) (.bin .mul (.int_ 104729) (.bin .add (.var 1) (.int_ 1)))) (.int_ 4294967291))) (.seq (.set 2 (.bin .mod (.bin .pow (.var 2) (.int_ 5)) (.int_ 4294967279))) (.seq (.ret (.bin .mod (.bin .add (.bin .mul (.bin .fdiv (.var 2) (.int_ 64)) (.int_ 69621)) (.var 2)) (.int_ 4294967231))) .skip)))⟩
def c__law_draw : Def := ⟨3, ["script", "town", "many"], (.seq (.expr (.meth .append (.var 1) (.cons (.int_ 0) .nil))) (.seq (.ret (.bin .mod (.bin .fdiv (.call f__law_mix (.cons (.var 0) (.cons (.bi .len (.cons (.var 1) .nil)) .nil))) (.int_ 8)) (.var 2))) .skip))⟩
def c__law_pick : Def := ⟨3, ["script", "town", "some"], (.seq (.ret (.ix (.var 2) (.call f__law_draw (.cons (.var 0) (.cons (.var 1) (.cons (.bi .len (.cons (.var 2) .nil)) .nil)))))) .skip)⟩
def c__law_refusal : Def := ⟨1, ["caught", "kinds", "words"], (.seq (.if_ (.cmp .is_ (.var 0) .none_) (.seq (.ret (.tup (.cons (.str_ s_ok) .nil))) .skip) .skip) (.seq (.if_ (.not_ (.isx "ValueError" (.var 0))) (.seq (.ret (.tup (.cons (.str_ s_wrong) .nil))) .skip) .skip) (.seq (.set 1 (.lst (.cons (.isx "BadForm" (.var 0)) (.cons (.isx "BadSide" (.var 0)) (.cons (.isx "BadRow" (.var 0)) .nil))))) (.seq (.set 1 (.bin .add (.var 1) (.lst (.cons (.isx "NotOver" (.var 0)) (.cons (.isx "BadTree" (.var 0)) (.cons (.isx "NoGift" (.var 0)) .nil)))))) (.seq (.set 1 (.bin .add (.var 1) (.lst (.cons (.isx "NoPoint" (.var 0)) (.cons (.isx "Full" (.var 0)) (.cons (.isx "Stuck" (.var 0)) .nil)))))) (.seq (.set 1 (.bin .add (.var 1) (.lst (.cons (.isx "Nothing" (.var 0)) (.cons (.isx "BadNumber" (.var 0)) (.cons (.isx "BadShare" (.var 0)) .nil)))))) (.seq (.set 1 (.bin .add (.var 1) (.lst (.cons (.isx "BadText" (.var 0)) (.cons (.isx "BadName" (.var 0)) (.cons (.isx "NoName" (.var 0)) .nil)))))) (.seq (.set 1 (.bin .add (.var 1) (.lst (.cons (.isx "NoMatch" (.var 0)) (.cons (.isx "Over" (.var 0)) .nil))))) (.seq (.if_ (.cmp .ne (.meth .count (.var 1) (.cons (.bool_ true) .nil)) (.int_ 1)) (.seq (.ret (.tup (.cons (.str_ s_wrong) .nil))) .skip) .skip) (.seq (.if_ (.ix (.var 1) (.neg (.int_ 1))) (.seq (.ret (.ifx (.not_ (.isi .bool (.fld "at" (.var 0)))) (.tup (.cons (.str_ s_over) (.cons (.fld "at" (.var 0)) .nil))) (.tup (.cons (.str_ s_wrong) .nil)))) .skip) .skip) (.seq (.set 2 (.lst (.cons (.str_ s_form) (.cons (.str_ s_side) (.cons (.str_ s_row) (.cons (.str_ s_not_over) (.cons (.str_ s_tree) (.cons (.str_ s_gift) (.cons (.str_ s_point) (.cons (.str_ s_full) (.cons (.str_ s_stuck) (.cons (.str_ s_nothing) (.cons (.str_ s_number) (.cons (.str_ s_share) .nil)))))))))))))) (.seq (.ret (.tup (.cons (.str_ s_refused) (.cons (.ix (.bin .add (.var 2) (.lst (.cons (.str_ s_text) (.cons (.str_ s_name) (.cons (.str_ s_no_name) (.cons (.str_ s_match) .nil)))))) (.meth .index (.var 1) (.cons (.bool_ true) .nil))) .nil)))) .skip))))))))))))⟩
def c__law_turn : Def := ⟨2, ["script", "town"], (.seq (.ret (.call f__law_pick (.cons (.var 0) (.cons (.var 1) (.cons (.lst (.cons (.str_ s_keep) (.cons (.str_ s_each) (.cons (.str_ s_twos) (.cons (.str_ s_pairs) (.cons (.str_ s_winner) (.cons (.str_ s_on) .nil))))))) .nil))))) .skip)⟩
def c__law_form : Def := ⟨4, ["script", "town", "layers", "top", "kind", "turn", "inner", "goal", "lead", "some", "k", "even"], (.seq (.set 4 (.call f__law_draw (.cons (.var 0) (.cons (.var 1) (.cons (.int_ 8) .nil))))) (.seq (.if_ (.or2 (.cmp .eq (.var 2) (.int_ 1)) (.or1 (.cmp .eq (.var 4) (.int_ 0)))) (.seq (.ret (.tup (.cons (.str_ s_point) .nil))) .skip) .skip) (.seq (.set 5 (.call f__law_turn (.cons (.var 0) (.cons (.var 1) .nil)))) (.seq (.set 6 (.call f__law_form (.cons (.var 0) (.cons (.var 1) (.cons (.bin .sub (.var 2) (.int_ 1)) (.cons (.var 3) .nil)))))) (.seq (.set 7 (.bin .add (.int_ 1) (.call f__law_draw (.cons (.var 0) (.cons (.var 1) (.cons (.var 3) .nil)))))) (.seq (.set 8 (.call f__law_pick (.cons (.var 0) (.cons (.var 1) (.cons (.lst (.cons (.int_ 1) (.cons (.int_ 2) (.cons (.int_ 2) (.cons (.int_ 3) .nil))))) .nil))))) (.seq (.if_ (.cmp .lt (.var 4) (.int_ 4)) (.seq (.ret (.tup (.cons (.str_ s_race) (.cons (.var 6) (.cons (.var 7) (.cons (.var 8) (.cons (.var 5) .nil))))))) .skip) .skip) (.seq (.if_ (.cmp .lt (.var 4) (.int_ 6)) (.seq (.set 11 (.bin .add (.int_ 1) (.call f__law_draw (.cons (.var 0) (.cons (.var 1) (.cons (.var 3) .nil)))))) (.seq (.if_ (.and2 (.cmp .eq (.var 8) (.int_ 1)) (.and1 (.cmp .ge (.var 11) (.var 7)))) (.seq (.set 7 (.bin .add (.var 11) (.int_ 1))) .skip) .skip) (.seq (.ret (.tup (.cons (.str_ s_tied) (.cons (.var 6) (.cons (.var 7) (.cons (.var 8) (.cons (.var 11) (.cons (.call f__law_form (.cons (.var 0) (.cons (.var 1) (.cons (.bin .sub (.var 2) (.int_ 1)) (.cons (.var 3) .nil))))) (.cons (.var 5) .nil))))))))) .skip))) .skip) (.seq (.set 9 (.lst (.cons (.var 6) .nil))) (.seq (.for_ .range [10] (.cons (.int_ 2) .nil) (.seq (.expr (.meth .append (.var 9) (.cons (.call f__law_form (.cons (.var 0) (.cons (.var 1) (.cons (.bin .sub (.var 2) (.int_ 1)) (.cons (.var 3) .nil))))) .nil))) .skip)) (.seq (.set 9 (.slice (.bin .mul (.var 9) (.int_ 3)) .nil (.call f__law_pick (.cons (.var 0) (.cons (.var 1) (.cons (.lst (.cons (.int_ 1) (.cons (.int_ 3) (.cons (.int_ 3) (.cons (.int_ 5) .nil))))) .nil)))))) (.seq (.ret (.tup (.cons (.str_ s_series) (.cons (.bi .tuple (.cons (.var 9) .nil)) (.cons (.var 5) .nil))))) .skip))))))))))))⟩
def c__law_size : Def := ⟨1, ["form", "inner", "one"], (.seq (.if_ (.cmp .eq (.ix (.var 0) (.int_ 0)) (.str_ s_point)) (.seq (.ret (.int_ 1)) .skip) .skip) (.seq (.set 1 (.ifx (.cmp .eq (.ix (.var 0) (.int_ 0)) (.str_ s_series)) (.bi .list (.cons (.ix (.var 0) (.int_ 1)) .nil)) (.lst (.cons (.ix (.var 0) (.int_ 1)) .nil)))) (.seq (.if_ (.cmp .eq (.ix (.var 0) (.int_ 0)) (.str_ s_tied)) (.seq (.expr (.meth .append (.var 1) (.cons (.ix (.var 0) (.int_ 5)) .nil))) .skip) .skip) (.seq (.ret (.bin .add (.int_ 1) (.bi .sum (.cons (.comp .seq 2 (.var 1) .nil (.call f__law_size (.cons (.var 2) .nil))) .nil)))) .skip))))⟩
def c__law_sized : Def := ⟨4, ["script", "town", "layers", "top", "form"], (.seq (.set 4 (.call f__law_form (.cons (.var 0) (.cons (.var 1) (.cons (.var 2) (.cons (.var 3) .nil)))))) (.seq (.ret (.ifx (.cmp .le (.call f__law_size (.cons (.var 4) .nil)) (.int_ 20)) (.var 4) (.tup (.cons (.str_ s_race) (.cons (.tup (.cons (.str_ s_point) .nil)) (.cons (.var 3) (.cons (.int_ 2) (.cons (.str_ s_pairs) .nil)))))))) .skip))⟩
def c__law_one : Def := ⟨2, ["kind", "form"], (.seq (.ret (.ifx (.cmp .eq (.var 0) (.int_ 0)) (.call f_deep (.cons (.var 1) .nil)) (.call f_size (.cons (.var 1) .nil)))) .skip)⟩
def c__law_told : Def := ⟨2, ["kind", "some", "caught", "found", "e"], (.seq (.set 2 .none_) (.seq (.set 3 .none_) (.seq (.tryc 3 (.call f__law_one (.cons (.var 0) (.cons (.var 1) .nil))) "ScoreError" 4 2) (.seq (.ret (.ifx (.cmp .is_ (.var 2) .none_) (.tup (.cons (.str_ s_found) (.cons (.var 3) .nil))) (.call f__law_refusal (.cons (.var 2) .nil)))) .skip))))⟩
def c__law_due : Def := ⟨2, ["layers", "many"], (.seq (.if_ (.or2 (.cmp .gt (.var 0) (.int_ 4)) (.or1 (.cmp .gt (.var 1) (.int_ 20)))) (.seq (.ret (.bin .mul (.lst (.cons (.tup (.cons (.str_ s_refused) (.cons (.str_ s_form) .nil))) .nil)) (.int_ 2))) .skip) .skip) (.seq (.ret (.lst (.cons (.tup (.cons (.str_ s_found) (.cons (.var 0) .nil))) (.cons (.tup (.cons (.str_ s_found) (.cons (.var 1) .nil))) .nil)))) .skip))⟩
def w_law_0 : CS := (.set 6 (.comp .range 20 (.cons (.int_ 7) .nil) .nil (.call f__law_sized (.cons (.var 0) (.cons (.var 1) (.cons (.bin .add (.int_ 1) (.call f__law_draw (.cons (.var 0) (.cons (.var 1) (.cons (.int_ 4) .nil))))) (.cons (.int_ 3) .nil)))))))
def w_law_1 : CS := (.set 7 (.comp .seq 21 (.var 6) .nil (.call f_deep (.cons (.var 21) .nil))))
def w_law_2 : CS := (.set 8 (.comp .seq 21 (.var 6) .nil (.call f_size (.cons (.var 21) .nil))))
def w_law_3 : CS := (.set 9 (.call f__law_turn (.cons (.var 0) (.cons (.var 1) .nil))))
def w_law_4 : CS := (.set 10 (.call f__law_pick (.cons (.var 0) (.cons (.var 1) (.cons (.lst (.cons (.int_ 1) (.cons (.int_ 3) (.cons (.int_ 5) (.cons (.int_ 7) .nil))))) .nil)))))
def w_law_5 : CS := (.set 11 (.tup (.cons (.str_ s_series) (.cons (.bi .tuple (.cons (.slice (.var 6) .nil (.var 10)) .nil)) (.cons (.var 9) .nil)))))
def w_law_6 : CS := (.set 12 (.call f__law_due (.cons (.bin .add (.int_ 1) (.bi .max (.cons (.slice (.var 7) .nil (.var 10)) .nil))) (.cons (.bin .add (.int_ 1) (.bi .sum (.cons (.slice (.var 8) .nil (.var 10)) .nil))) .nil))))
def w_law_7 : CS := (.if_ (.cmp .ne (.comp .range 19 (.cons (.int_ 2) .nil) .nil (.call f__law_told (.cons (.var 19) (.cons (.var 11) .nil)))) (.var 12)) (.seq (.ret (.bool_ false)) .skip) .skip)
def w_law_8 : CS := (.set 13 (.tup (.cons (.str_ s_tied) (.cons (.ix (.var 6) (.int_ 0)) (.cons (.int_ 4) (.cons (.int_ 2) (.cons (.call f__law_pick (.cons (.var 0) (.cons (.var 1) (.cons (.lst (.cons (.int_ 1) (.cons (.int_ 30) .nil))) .nil)))) (.cons (.ix (.var 6) (.int_ 1)) (.cons (.var 9) .nil)))))))))
def w_law_9 : CS := (.set 12 (.call f__law_due (.cons (.bin .add (.int_ 1) (.bi .max (.cons (.slice (.var 7) .nil (.int_ 2)) .nil))) (.cons (.bin .add (.int_ 1) (.bi .sum (.cons (.slice (.var 8) .nil (.int_ 2)) .nil))) .nil))))
def w_law_10 : CS := (.if_ (.cmp .ne (.comp .range 19 (.cons (.int_ 2) .nil) .nil (.call f__law_told (.cons (.var 19) (.cons (.var 13) .nil)))) (.var 12)) (.seq (.ret (.bool_ false)) .skip) .skip)
def w_law_11 : CS := (.set 14 (.call f__law_pick (.cons (.var 0) (.cons (.var 1) (.cons (.lst (.cons (.int_ 0) (.cons (.int_ 1) (.cons (.int_ 30) (.cons (.int_ 31) .nil))))) .nil)))))
def w_law_12 : CS := (.set 15 (.call f__law_pick (.cons (.var 0) (.cons (.var 1) (.cons (.lst (.cons (.int_ 0) (.cons (.int_ 1) (.cons (.int_ 3) (.cons (.int_ 4) .nil))))) .nil)))))
def w_law_13 : CS := (.set 16 (.tup (.cons (.str_ s_race) (.cons (.ix (.var 6) (.int_ 2)) (.cons (.var 14) (.cons (.var 15) (.cons (.var 9) .nil)))))))
def w_law_14 : CS := (.set 12 (.ifx (.and2 (.chain .le .le (.int_ 1) (.var 14) (.int_ 30)) (.and1 (.chain .le .le (.int_ 1) (.var 15) (.int_ 3)))) (.call f__law_due (.cons (.bin .add (.int_ 1) (.ix (.var 7) (.int_ 2))) (.cons (.bin .add (.int_ 1) (.ix (.var 8) (.int_ 2))) .nil))) (.call f__law_due (.cons (.int_ 5) (.cons (.int_ 1) .nil)))))
def w_law_15 : CS := (.if_ (.cmp .ne (.comp .range 19 (.cons (.int_ 2) .nil) .nil (.call f__law_told (.cons (.var 19) (.cons (.var 16) .nil)))) (.var 12)) (.seq (.ret (.bool_ false)) .skip) .skip)
def w_law_16 : CS := (.set 17 (.call f__law_pick (.cons (.var 0) (.cons (.var 1) (.cons (.lst (.cons (.int_ 0) (.cons (.int_ 1) (.cons (.int_ 4) (.cons (.int_ 5) (.cons (.int_ 30) (.cons (.int_ 31) .nil))))))) .nil)))))
def w_law_17 : CS := (.set 15 (.call f__law_pick (.cons (.var 0) (.cons (.var 1) (.cons (.lst (.cons (.int_ 1) (.cons (.int_ 2) .nil))) .nil)))))
def w_law_18 : CS := (.set 13 (.tup (.cons (.str_ s_tied) (.cons (.tup (.cons (.str_ s_point) .nil)) (.cons (.int_ 5) (.cons (.var 15) (.cons (.var 17) (.cons (.ix (.var 6) (.int_ 3)) (.cons (.var 9) .nil)))))))))
def w_law_19 : CS := (.set 18 (.and2 (.chain .le .le (.int_ 1) (.var 17) (.int_ 30)) (.and1 (.or2 (.cmp .eq (.var 15) (.int_ 2)) (.or1 (.cmp .lt (.var 17) (.int_ 5)))))))
def w_law_20 : CS := (.set 12 (.ifx (.var 18) (.call f__law_due (.cons (.bin .add (.int_ 1) (.ix (.var 7) (.int_ 3))) (.cons (.bin .add (.int_ 2) (.ix (.var 8) (.int_ 3))) .nil))) (.call f__law_due (.cons (.int_ 5) (.cons (.int_ 1) .nil)))))
def w_law_21 : CS := (.if_ (.cmp .ne (.comp .range 19 (.cons (.int_ 2) .nil) .nil (.call f__law_told (.cons (.var 19) (.cons (.var 13) .nil)))) (.var 12)) (.seq (.ret (.bool_ false)) .skip) .skip)
def b_law_22 : CS := (.seq w_law_0 (.seq w_law_1 (.seq w_law_2 (.seq w_law_3 (.seq w_law_4 (.seq w_law_5 (.seq w_law_6 (.seq w_law_7 (.seq w_law_8 (.seq w_law_9 (.seq w_law_10 (.seq w_law_11 (.seq w_law_12 (.seq w_law_13 (.seq w_law_14 (.seq w_law_15 (.seq w_law_16 (.seq w_law_17 (.seq w_law_18 (.seq w_law_19 (.seq w_law_20 (.seq w_law_21 .skip))))))))))))))))))))))
def w_law_23 : CS := (.set 1 (.lst .nil))
def w_law_24 : CS := (.for_ .range [2] (.cons (.int_ 3) .nil) b_law_22)
def w_law_25 : CS := (.set 3 (.tup (.cons (.str_ s_series) (.cons (.bin .mul (.tup (.cons (.tup (.cons (.str_ s_race) (.cons (.tup (.cons (.str_ s_point) .nil)) (.cons (.int_ 1) (.cons (.int_ 1) (.cons (.str_ s_on) .nil)))))) .nil)) (.int_ 7)) (.cons (.str_ s_on) .nil)))))
def w_law_26 : CS := (.set 4 (.tup (.cons (.str_ s_race) (.cons (.tup (.cons (.str_ s_race) (.cons (.tup (.cons (.str_ s_race) (.cons (.tup (.cons (.str_ s_point) .nil)) (.cons (.int_ 1) (.cons (.int_ 1) (.cons (.str_ s_on) .nil)))))) (.cons (.int_ 1) (.cons (.int_ 1) (.cons (.str_ s_on) .nil)))))) (.cons (.int_ 1) (.cons (.int_ 1) (.cons (.str_ s_on) .nil)))))))
def w_law_27 : CS := (.set 5 (.tup (.cons (.str_ s_tied) (.cons (.tup (.cons (.str_ s_point) .nil)) (.cons (.int_ 2) (.cons (.int_ 2) (.cons (.int_ 1) (.cons (.tup (.cons (.str_ s_race) (.cons (.tup (.cons (.str_ s_point) .nil)) (.cons (.int_ 1) (.cons (.int_ 1) (.cons (.str_ s_on) .nil)))))) (.cons (.str_ s_on) .nil)))))))))
def w_law_28 : CS := (.set 6 (.comp .range 19 (.cons (.int_ 2) .nil) .nil (.call f__law_told (.cons (.var 19) (.cons (.tup (.cons (.str_ s_series) (.cons (.bin .mul (.tup (.cons (.var 5) .nil)) (.int_ 5)) (.cons (.str_ s_on) .nil)))) .nil)))))
def w_law_29 : CS := (.if_ (.cmp .ne (.var 6) (.bin .mul (.lst (.cons (.tup (.cons (.str_ s_refused) (.cons (.str_ s_form) .nil))) .nil)) (.int_ 2))) (.seq (.ret (.bool_ false)) .skip) .skip)
def w_law_30 : CS := (.ret (.cmp .eq (.lst (.cons (.call f_deep (.cons (.var 3) .nil)) (.cons (.call f_size (.cons (.var 3) .nil)) (.cons (.call f_deep (.cons (.var 4) .nil)) (.cons (.call f_size (.cons (.var 4) .nil)) .nil))))) (.lst (.cons (.int_ 3) (.cons (.int_ 15) (.cons (.int_ 4) (.cons (.int_ 4) .nil)))))))
def c_law : Def := ⟨1, ["script", "town", "k", "wide", "thin", "over", "some", "layers", "sizes", "turn", "many", "series", "due", "tied", "goal", "lead", "race", "even", "is_one", "kind", "j", "one"], (.seq w_law_23 (.seq w_law_24 (.seq w_law_25 (.seq w_law_26 (.seq w_law_27 (.seq w_law_28 (.seq w_law_29 (.seq w_law_30 .skip))))))))⟩
def T : Tab := [(f_is_number, c_is_number), (f_is_turn, c_is_turn), (f_is_race, c_is_race), (f_is_tied, c_is_tied), (f_is_series, c_is_series), (f_is_shape, c_is_shape), (f_parts, c_parts), (f_size_of, c_size_of), (f_deep_of, c_deep_of), (f_is_form, c_is_form), (f_look_form, c_look_form), (f_deep, c_deep), (f_size, c_size), (f__law_cell, c__law_cell), (f__law_mix, c__law_mix), (f__law_draw, c__law_draw), (f__law_pick, c__law_pick), (f__law_refusal, c__law_refusal), (f__law_turn, c__law_turn), (f__law_form, c__law_form), (f__law_size, c__law_size), (f__law_sized, c__law_sized), (f__law_one, c__law_one), (f__law_told, c__law_told), (f__law_due, c__law_due), (f_law, c_law)]
def glT : List (Str × Val) := [(s_TURNS, (.tup [(.str s_keep), (.str s_each), (.str s_twos), (.str s_pairs), (.str s_winner), (.str s_on)])), (s_MOST_DEEP, (.int 4)), (s_MOST_SIZE, (.int 20)), (s_MOST_GOAL, (.int 30)), (s_MOST_LEAD, (.int 3)), (s_SERIES, (.tup [(.int 1), (.int 3), (.int 5), (.int 7)]))]
def gl (x : Str) : Option Val := glT.lookup x
def gpT : List (Str × PV) := [(s_TURNS, (.tup [(.str s_keep), (.str s_each), (.str s_twos), (.str s_pairs), (.str s_winner), (.str s_on)])), (s_MOST_DEEP, (.int 4)), (s_MOST_SIZE, (.int 20)), (s_MOST_GOAL, (.int 30)), (s_MOST_LEAD, (.int 3)), (s_SERIES, (.tup [(.int 1), (.int 3), (.int 5), (.int 7)]))]
def gp (x : Str) : Option PV := gpT.lookup x
def ioT : List (Str × List Bool) := [(f__law_draw, [false, true]), (f__law_pick, [false, true]), (f__law_turn, [false, true]), (f__law_form, [false, true]), (f__law_sized, [false, true])]
def ioF (f : Str) : List Bool := (ioT.lookup f).getD []
def W0 : Nat := 1000003
noncomputable def FN (n : Nat) : PFns := ⟨callP T gp ioF W0 n, gp, W0, hasN T n, ioF⟩
noncomputable def cl (n : Nat) (f : Str) (args : List PV) : PC := callP T gp ioF W0 n f args
@[simp] theorem FN_fn {n : Nat} : (FN n).fn = cl n := rfl
@[simp] theorem FN_glob {n : Nat} : (FN n).glob = gp := rfl
@[simp] theorem FN_io {n : Nat} : (FN n).io = ioF := rfl
@[simp] theorem FN_fuel {n : Nat} : (FN n).fuel = W0 := rfl
@[simp] theorem FN_has {n : Nat} : (FN n).has = hasN T n := rfl
theorem W0_odd : W0 % 2 = 1 := by decide
@[simp] theorem ps_tryF {n i m j : Nat} {e : CE} {env : PEnv} : evalPS (FN n) (.tryc i e "ScoreError" m j) env = (match evalP (FN n) e .sh env with
    | .ok xs e1 => tone xs fun v => .ok .next (e1.set i (some v))
    | .exc c v e1 => .ok .next ((e1.set j (some (.obj true c ((excFs c .none).map (·.1)) (if c = "Over" then [v] else [])))).set m none)
    | .stuck => .stuck) := ps_try W0_odd
@[simp] theorem ps_raiseOv {n : Nat} {e : CE} {env : PEnv} : evalPS (FN n) (.raise1 "Over" e) env = (evalP (FN n) e .sh env).bind fun xs e1 => tone xs fun v => if v.noO = true ∧ v.noF = true then .exc "Over" v e1 else .stuck := ps_raise1 W0_odd
@[simp] theorem rs_BadForm {n : Nat} {env : PEnv} : evalPS (FN n) (.raise0 "BadForm") env = .exc "BadForm" .none env := ps_raise0 (by decide) W0_odd
@[simp] theorem xf_BadForm : excFs "BadForm" .none = [] := by decide
@[simp] theorem xo_BadForm : (("BadForm" : Str) = "Over") = False := eq_false (by decide)
@[simp] theorem rs_BadName {n : Nat} {env : PEnv} : evalPS (FN n) (.raise0 "BadName") env = .exc "BadName" .none env := ps_raise0 (by decide) W0_odd
@[simp] theorem xf_BadName : excFs "BadName" .none = [] := by decide
@[simp] theorem xo_BadName : (("BadName" : Str) = "Over") = False := eq_false (by decide)
@[simp] theorem rs_BadNumber {n : Nat} {env : PEnv} : evalPS (FN n) (.raise0 "BadNumber") env = .exc "BadNumber" .none env := ps_raise0 (by decide) W0_odd
@[simp] theorem xf_BadNumber : excFs "BadNumber" .none = [] := by decide
@[simp] theorem xo_BadNumber : (("BadNumber" : Str) = "Over") = False := eq_false (by decide)
@[simp] theorem rs_BadRow {n : Nat} {env : PEnv} : evalPS (FN n) (.raise0 "BadRow") env = .exc "BadRow" .none env := ps_raise0 (by decide) W0_odd
@[simp] theorem xf_BadRow : excFs "BadRow" .none = [] := by decide
@[simp] theorem xo_BadRow : (("BadRow" : Str) = "Over") = False := eq_false (by decide)
@[simp] theorem rs_BadShare {n : Nat} {env : PEnv} : evalPS (FN n) (.raise0 "BadShare") env = .exc "BadShare" .none env := ps_raise0 (by decide) W0_odd
@[simp] theorem xf_BadShare : excFs "BadShare" .none = [] := by decide
@[simp] theorem xo_BadShare : (("BadShare" : Str) = "Over") = False := eq_false (by decide)
@[simp] theorem rs_BadSide {n : Nat} {env : PEnv} : evalPS (FN n) (.raise0 "BadSide") env = .exc "BadSide" .none env := ps_raise0 (by decide) W0_odd
@[simp] theorem xf_BadSide : excFs "BadSide" .none = [] := by decide
@[simp] theorem xo_BadSide : (("BadSide" : Str) = "Over") = False := eq_false (by decide)
@[simp] theorem rs_BadText {n : Nat} {env : PEnv} : evalPS (FN n) (.raise0 "BadText") env = .exc "BadText" .none env := ps_raise0 (by decide) W0_odd
@[simp] theorem xf_BadText : excFs "BadText" .none = [] := by decide
@[simp] theorem xo_BadText : (("BadText" : Str) = "Over") = False := eq_false (by decide)
@[simp] theorem rs_BadTree {n : Nat} {env : PEnv} : evalPS (FN n) (.raise0 "BadTree") env = .exc "BadTree" .none env := ps_raise0 (by decide) W0_odd
@[simp] theorem xf_BadTree : excFs "BadTree" .none = [] := by decide
@[simp] theorem xo_BadTree : (("BadTree" : Str) = "Over") = False := eq_false (by decide)
@[simp] theorem rs_Full {n : Nat} {env : PEnv} : evalPS (FN n) (.raise0 "Full") env = .exc "Full" .none env := ps_raise0 (by decide) W0_odd
@[simp] theorem xf_Full : excFs "Full" .none = [] := by decide
@[simp] theorem xo_Full : (("Full" : Str) = "Over") = False := eq_false (by decide)
@[simp] theorem rs_NoGift {n : Nat} {env : PEnv} : evalPS (FN n) (.raise0 "NoGift") env = .exc "NoGift" .none env := ps_raise0 (by decide) W0_odd
@[simp] theorem xf_NoGift : excFs "NoGift" .none = [] := by decide
@[simp] theorem xo_NoGift : (("NoGift" : Str) = "Over") = False := eq_false (by decide)
@[simp] theorem rs_NoMatch {n : Nat} {env : PEnv} : evalPS (FN n) (.raise0 "NoMatch") env = .exc "NoMatch" .none env := ps_raise0 (by decide) W0_odd
@[simp] theorem xf_NoMatch : excFs "NoMatch" .none = [] := by decide
@[simp] theorem xo_NoMatch : (("NoMatch" : Str) = "Over") = False := eq_false (by decide)
@[simp] theorem rs_NoName {n : Nat} {env : PEnv} : evalPS (FN n) (.raise0 "NoName") env = .exc "NoName" .none env := ps_raise0 (by decide) W0_odd
@[simp] theorem xf_NoName : excFs "NoName" .none = [] := by decide
@[simp] theorem xo_NoName : (("NoName" : Str) = "Over") = False := eq_false (by decide)
@[simp] theorem rs_NoPoint {n : Nat} {env : PEnv} : evalPS (FN n) (.raise0 "NoPoint") env = .exc "NoPoint" .none env := ps_raise0 (by decide) W0_odd
@[simp] theorem xf_NoPoint : excFs "NoPoint" .none = [] := by decide
@[simp] theorem xo_NoPoint : (("NoPoint" : Str) = "Over") = False := eq_false (by decide)
@[simp] theorem rs_NotOver {n : Nat} {env : PEnv} : evalPS (FN n) (.raise0 "NotOver") env = .exc "NotOver" .none env := ps_raise0 (by decide) W0_odd
@[simp] theorem xf_NotOver : excFs "NotOver" .none = [] := by decide
@[simp] theorem xo_NotOver : (("NotOver" : Str) = "Over") = False := eq_false (by decide)
@[simp] theorem rs_Nothing {n : Nat} {env : PEnv} : evalPS (FN n) (.raise0 "Nothing") env = .exc "Nothing" .none env := ps_raise0 (by decide) W0_odd
@[simp] theorem xf_Nothing : excFs "Nothing" .none = [] := by decide
@[simp] theorem xo_Nothing : (("Nothing" : Str) = "Over") = False := eq_false (by decide)
@[simp] theorem rs_Stuck {n : Nat} {env : PEnv} : evalPS (FN n) (.raise0 "Stuck") env = .exc "Stuck" .none env := ps_raise0 (by decide) W0_odd
@[simp] theorem xf_Stuck : excFs "Stuck" .none = [] := by decide
@[simp] theorem xo_Stuck : (("Stuck" : Str) = "Over") = False := eq_false (by decide)
@[simp] theorem xf_Over : excFs "Over" .none = [(("at" : Str), Val.none)] := by unfold excFs; exact if_pos rfl
theorem W0_big : W0 = 1000002 + 1 := by decide
theorem wfT : (T.all fun fd => wfS fd.2.body) = true := by decide +kernel
theorem hgp : AllGP glT gpT := .cons (fun _ _ => .tup (.cons (a := z0) (b := z0) (.str _ fun _ => rfl) (.cons (a := z0) (b := z0) (.str _ fun _ => rfl) (.cons (a := z0) (b := z0) (.str _ fun _ => rfl) (.cons (a := z0) (b := z0) (.str _ fun _ => rfl) (.cons (a := z0) (b := z0) (.str _ fun _ => rfl) (.cons (a := z0) (b := z0) (.str _ fun _ => rfl) (.nil fun _ => rfl) fun _ => rfl) fun _ => rfl) fun _ => rfl) fun _ => rfl) fun _ => rfl) fun _ => rfl)) (.cons (fun _ _ => .int _ fun _ => rfl) (.cons (fun _ _ => .int _ fun _ => rfl) (.cons (fun _ _ => .int _ fun _ => rfl) (.cons (fun _ _ => .int _ fun _ => rfl) (.cons (fun _ _ => .tup (.cons (a := z0) (b := z0) (.int _ fun _ => rfl) (.cons (a := z0) (b := z0) (.int _ fun _ => rfl) (.cons (a := z0) (b := z0) (.int _ fun _ => rfl) (.cons (a := z0) (b := z0) (.int _ fun _ => rfl) (.nil fun _ => rfl) fun _ => rfl) fun _ => rfl) fun _ => rfl) fun _ => rfl)) (.nil))))))
theorem lk_is_number : T.lookup f_is_number = some c_is_number := rfl
@[simp] theorem io_is_number : ioF f_is_number = [] := rfl
@[simp] theorem cb_is_number {n : Nat} {bs : List BV} {env : PEnv} : callB (FN n) f_is_number bs env = (takeIO [] bs env).elim .stuck fun q => (argV [] bs q.1 q.2).elim .stuck fun args => endC [] bs q.2 (cl n f_is_number args) := callB_eq rfl
theorem cl_is_number {n : Nat} (x0 x1 x2 : PV) : cl (n + 1) f_is_number [x0, x1, x2] = endP false [] (evalPS (FN n) c_is_number.body [some x0, some x1, some x2]) := run_of lk_is_number rfl rfl (by decide +kernel) rfl (by decide +kernel)
theorem lk_is_turn : T.lookup f_is_turn = some c_is_turn := rfl
@[simp] theorem io_is_turn : ioF f_is_turn = [] := rfl
@[simp] theorem cb_is_turn {n : Nat} {bs : List BV} {env : PEnv} : callB (FN n) f_is_turn bs env = (takeIO [] bs env).elim .stuck fun q => (argV [] bs q.1 q.2).elim .stuck fun args => endC [] bs q.2 (cl n f_is_turn args) := callB_eq rfl
theorem cl_is_turn {n : Nat} (x0 : PV) : cl (n + 1) f_is_turn [x0] = endP false [] (evalPS (FN n) c_is_turn.body [some x0]) := run_of lk_is_turn rfl rfl (by decide +kernel) rfl (by decide +kernel)
theorem lk_is_race : T.lookup f_is_race = some c_is_race := rfl
@[simp] theorem io_is_race : ioF f_is_race = [] := rfl
@[simp] theorem cb_is_race {n : Nat} {bs : List BV} {env : PEnv} : callB (FN n) f_is_race bs env = (takeIO [] bs env).elim .stuck fun q => (argV [] bs q.1 q.2).elim .stuck fun args => endC [] bs q.2 (cl n f_is_race args) := callB_eq rfl
theorem cl_is_race {n : Nat} (x0 x1 : PV) : cl (n + 1) f_is_race [x0, x1] = endP false [] (evalPS (FN n) c_is_race.body [some x0, some x1]) := run_of lk_is_race rfl rfl (by decide +kernel) rfl (by decide +kernel)
theorem lk_is_tied : T.lookup f_is_tied = some c_is_tied := rfl
@[simp] theorem io_is_tied : ioF f_is_tied = [] := rfl
@[simp] theorem cb_is_tied {n : Nat} {bs : List BV} {env : PEnv} : callB (FN n) f_is_tied bs env = (takeIO [] bs env).elim .stuck fun q => (argV [] bs q.1 q.2).elim .stuck fun args => endC [] bs q.2 (cl n f_is_tied args) := callB_eq rfl
theorem cl_is_tied {n : Nat} (x0 x1 : PV) : cl (n + 1) f_is_tied [x0, x1] = endP false [] (evalPS (FN n) c_is_tied.body [some x0, some x1]) := run_of lk_is_tied rfl rfl (by decide +kernel) rfl (by decide +kernel)
theorem lk_is_series : T.lookup f_is_series = some c_is_series := rfl
@[simp] theorem io_is_series : ioF f_is_series = [] := rfl
@[simp] theorem cb_is_series {n : Nat} {bs : List BV} {env : PEnv} : callB (FN n) f_is_series bs env = (takeIO [] bs env).elim .stuck fun q => (argV [] bs q.1 q.2).elim .stuck fun args => endC [] bs q.2 (cl n f_is_series args) := callB_eq rfl
theorem cl_is_series {n : Nat} (x0 x1 : PV) : cl (n + 1) f_is_series [x0, x1] = endP true [] (evalPS (FN n) c_is_series.body [some x0, some x1, none]) := run_of lk_is_series rfl rfl (by decide +kernel) rfl (by decide +kernel)
theorem lk_is_shape : T.lookup f_is_shape = some c_is_shape := rfl
@[simp] theorem io_is_shape : ioF f_is_shape = [] := rfl
@[simp] theorem cb_is_shape {n : Nat} {bs : List BV} {env : PEnv} : callB (FN n) f_is_shape bs env = (takeIO [] bs env).elim .stuck fun q => (argV [] bs q.1 q.2).elim .stuck fun args => endC [] bs q.2 (cl n f_is_shape args) := callB_eq rfl
theorem cl_is_shape {n : Nat} (x0 x1 : PV) : cl (n + 1) f_is_shape [x0, x1] = endP false [] (evalPS (FN n) c_is_shape.body [some x0, some x1]) := run_of lk_is_shape rfl rfl (by decide +kernel) rfl (by decide +kernel)
theorem lk_parts : T.lookup f_parts = some c_parts := rfl
@[simp] theorem io_parts : ioF f_parts = [] := rfl
@[simp] theorem cb_parts {n : Nat} {bs : List BV} {env : PEnv} : callB (FN n) f_parts bs env = (takeIO [] bs env).elim .stuck fun q => (argV [] bs q.1 q.2).elim .stuck fun args => endC [] bs q.2 (cl n f_parts args) := callB_eq rfl
theorem cl_parts {n : Nat} (x0 : PV) : cl (n + 1) f_parts [x0] = endP true [] (evalPS (FN n) c_parts.body [some x0]) := run_of lk_parts rfl rfl (by decide +kernel) rfl (by decide +kernel)
theorem lk_size_of : T.lookup f_size_of = some c_size_of := rfl
@[simp] theorem io_size_of : ioF f_size_of = [] := rfl
@[simp] theorem cb_size_of {n : Nat} {bs : List BV} {env : PEnv} : callB (FN n) f_size_of bs env = (takeIO [] bs env).elim .stuck fun q => (argV [] bs q.1 q.2).elim .stuck fun args => endC [] bs q.2 (cl n f_size_of args) := callB_eq rfl
theorem cl_size_of {n : Nat} (x0 : PV) : cl (n + 1) f_size_of [x0] = endP true [] (evalPS (FN n) c_size_of.body [some x0, none]) := run_of lk_size_of rfl rfl (by decide +kernel) rfl (by decide +kernel)
theorem lk_deep_of : T.lookup f_deep_of = some c_deep_of := rfl
@[simp] theorem io_deep_of : ioF f_deep_of = [] := rfl
@[simp] theorem cb_deep_of {n : Nat} {bs : List BV} {env : PEnv} : callB (FN n) f_deep_of bs env = (takeIO [] bs env).elim .stuck fun q => (argV [] bs q.1 q.2).elim .stuck fun args => endC [] bs q.2 (cl n f_deep_of args) := callB_eq rfl
theorem cl_deep_of {n : Nat} (x0 : PV) : cl (n + 1) f_deep_of [x0] = endP true [] (evalPS (FN n) c_deep_of.body [some x0, none]) := run_of lk_deep_of rfl rfl (by decide +kernel) rfl (by decide +kernel)
theorem lk_is_form : T.lookup f_is_form = some c_is_form := rfl
@[simp] theorem io_is_form : ioF f_is_form = [] := rfl
@[simp] theorem cb_is_form {n : Nat} {bs : List BV} {env : PEnv} : callB (FN n) f_is_form bs env = (takeIO [] bs env).elim .stuck fun q => (argV [] bs q.1 q.2).elim .stuck fun args => endC [] bs q.2 (cl n f_is_form args) := callB_eq rfl
theorem cl_is_form {n : Nat} (x0 : PV) : cl (n + 1) f_is_form [x0] = endP false [] (evalPS (FN n) c_is_form.body [some x0]) := run_of lk_is_form rfl rfl (by decide +kernel) rfl (by decide +kernel)
theorem lk_look_form : T.lookup f_look_form = some c_look_form := rfl
@[simp] theorem io_look_form : ioF f_look_form = [] := rfl
@[simp] theorem cb_look_form {n : Nat} {bs : List BV} {env : PEnv} : callB (FN n) f_look_form bs env = (takeIO [] bs env).elim .stuck fun q => (argV [] bs q.1 q.2).elim .stuck fun args => endC [] bs q.2 (cl n f_look_form args) := callB_eq rfl
theorem cl_look_form {n : Nat} (x0 : PV) : cl (n + 1) f_look_form [x0] = endP true [] (evalPS (FN n) c_look_form.body [some x0]) := run_of lk_look_form rfl rfl (by decide +kernel) rfl (by decide +kernel)
theorem lk_deep : T.lookup f_deep = some c_deep := rfl
@[simp] theorem io_deep : ioF f_deep = [] := rfl
@[simp] theorem cb_deep {n : Nat} {bs : List BV} {env : PEnv} : callB (FN n) f_deep bs env = (takeIO [] bs env).elim .stuck fun q => (argV [] bs q.1 q.2).elim .stuck fun args => endC [] bs q.2 (cl n f_deep args) := callB_eq rfl
theorem cl_deep {n : Nat} (x0 : PV) : cl (n + 1) f_deep [x0] = endP true [] (evalPS (FN n) c_deep.body [some x0]) := run_of lk_deep rfl rfl (by decide +kernel) rfl (by decide +kernel)
theorem lk_size : T.lookup f_size = some c_size := rfl
@[simp] theorem io_size : ioF f_size = [] := rfl
@[simp] theorem cb_size {n : Nat} {bs : List BV} {env : PEnv} : callB (FN n) f_size bs env = (takeIO [] bs env).elim .stuck fun q => (argV [] bs q.1 q.2).elim .stuck fun args => endC [] bs q.2 (cl n f_size args) := callB_eq rfl
theorem cl_size {n : Nat} (x0 : PV) : cl (n + 1) f_size [x0] = endP true [] (evalPS (FN n) c_size.body [some x0]) := run_of lk_size rfl rfl (by decide +kernel) rfl (by decide +kernel)
theorem lk__law_cell : T.lookup f__law_cell = some c__law_cell := rfl
@[simp] theorem io__law_cell : ioF f__law_cell = [] := rfl
@[simp] theorem cb__law_cell {n : Nat} {bs : List BV} {env : PEnv} : callB (FN n) f__law_cell bs env = (takeIO [] bs env).elim .stuck fun q => (argV [] bs q.1 q.2).elim .stuck fun args => endC [] bs q.2 (cl n f__law_cell args) := callB_eq rfl
theorem cl__law_cell {n : Nat} (x0 x1 : PV) : cl (n + 1) f__law_cell [x0, x1] = endP true [] (evalPS (FN n) c__law_cell.body [some x0, some x1]) := run_of lk__law_cell rfl rfl (by decide +kernel) rfl (by decide +kernel)
theorem lk__law_mix : T.lookup f__law_mix = some c__law_mix := rfl
@[simp] theorem io__law_mix : ioF f__law_mix = [] := rfl
@[simp] theorem cb__law_mix {n : Nat} {bs : List BV} {env : PEnv} : callB (FN n) f__law_mix bs env = (takeIO [] bs env).elim .stuck fun q => (argV [] bs q.1 q.2).elim .stuck fun args => endC [] bs q.2 (cl n f__law_mix args) := callB_eq rfl
theorem cl__law_mix {n : Nat} (x0 x1 : PV) : cl (n + 1) f__law_mix [x0, x1] = endP true [] (evalPS (FN n) c__law_mix.body [some x0, some x1, none]) := run_of lk__law_mix rfl rfl (by decide +kernel) rfl (by decide +kernel)
theorem lk__law_draw : T.lookup f__law_draw = some c__law_draw := rfl
@[simp] theorem io__law_draw : ioF f__law_draw = [false, true] := rfl
@[simp] theorem cb__law_draw {n : Nat} {bs : List BV} {env : PEnv} : callB (FN n) f__law_draw bs env = (takeIO [false, true] bs env).elim .stuck fun q => (argV [false, true] bs q.1 q.2).elim .stuck fun args => endC [false, true] bs q.2 (cl n f__law_draw args) := callB_eq rfl
theorem cl__law_draw {n : Nat} (x0 x1 x2 : PV) : cl (n + 1) f__law_draw [x0, x1, x2] = endP true [false, true] (evalPS (FN n) c__law_draw.body [some x0, some x1, some x2]) := run_of lk__law_draw rfl rfl (by decide +kernel) rfl (by decide +kernel)
theorem lk__law_pick : T.lookup f__law_pick = some c__law_pick := rfl
@[simp] theorem io__law_pick : ioF f__law_pick = [false, true] := rfl
@[simp] theorem cb__law_pick {n : Nat} {bs : List BV} {env : PEnv} : callB (FN n) f__law_pick bs env = (takeIO [false, true] bs env).elim .stuck fun q => (argV [false, true] bs q.1 q.2).elim .stuck fun args => endC [false, true] bs q.2 (cl n f__law_pick args) := callB_eq rfl
theorem cl__law_pick {n : Nat} (x0 x1 x2 : PV) : cl (n + 1) f__law_pick [x0, x1, x2] = endP true [false, true] (evalPS (FN n) c__law_pick.body [some x0, some x1, some x2]) := run_of lk__law_pick rfl rfl (by decide +kernel) rfl (by decide +kernel)
theorem lk__law_refusal : T.lookup f__law_refusal = some c__law_refusal := rfl
@[simp] theorem io__law_refusal : ioF f__law_refusal = [] := rfl
@[simp] theorem cb__law_refusal {n : Nat} {bs : List BV} {env : PEnv} : callB (FN n) f__law_refusal bs env = (takeIO [] bs env).elim .stuck fun q => (argV [] bs q.1 q.2).elim .stuck fun args => endC [] bs q.2 (cl n f__law_refusal args) := callB_eq rfl
theorem cl__law_refusal {n : Nat} (x0 : PV) : cl (n + 1) f__law_refusal [x0] = endP true [] (evalPS (FN n) c__law_refusal.body [some x0, none, none]) := run_of lk__law_refusal rfl rfl (by decide +kernel) rfl (by decide +kernel)
theorem lk__law_turn : T.lookup f__law_turn = some c__law_turn := rfl
@[simp] theorem io__law_turn : ioF f__law_turn = [false, true] := rfl
@[simp] theorem cb__law_turn {n : Nat} {bs : List BV} {env : PEnv} : callB (FN n) f__law_turn bs env = (takeIO [false, true] bs env).elim .stuck fun q => (argV [false, true] bs q.1 q.2).elim .stuck fun args => endC [false, true] bs q.2 (cl n f__law_turn args) := callB_eq rfl
theorem cl__law_turn {n : Nat} (x0 x1 : PV) : cl (n + 1) f__law_turn [x0, x1] = endP true [false, true] (evalPS (FN n) c__law_turn.body [some x0, some x1]) := run_of lk__law_turn rfl rfl (by decide +kernel) rfl (by decide +kernel)
theorem lk__law_form : T.lookup f__law_form = some c__law_form := rfl
@[simp] theorem io__law_form : ioF f__law_form = [false, true] := rfl
@[simp] theorem cb__law_form {n : Nat} {bs : List BV} {env : PEnv} : callB (FN n) f__law_form bs env = (takeIO [false, true] bs env).elim .stuck fun q => (argV [false, true] bs q.1 q.2).elim .stuck fun args => endC [false, true] bs q.2 (cl n f__law_form args) := callB_eq rfl
theorem cl__law_form {n : Nat} (x0 x1 x2 x3 : PV) : cl (n + 1) f__law_form [x0, x1, x2, x3] = endP true [false, true] (evalPS (FN n) c__law_form.body [some x0, some x1, some x2, some x3, none, none, none, none, none, none, none, none]) := run_of lk__law_form rfl rfl (by decide +kernel) rfl (by decide +kernel)
theorem lk__law_size : T.lookup f__law_size = some c__law_size := rfl
@[simp] theorem io__law_size : ioF f__law_size = [] := rfl
@[simp] theorem cb__law_size {n : Nat} {bs : List BV} {env : PEnv} : callB (FN n) f__law_size bs env = (takeIO [] bs env).elim .stuck fun q => (argV [] bs q.1 q.2).elim .stuck fun args => endC [] bs q.2 (cl n f__law_size args) := callB_eq rfl
theorem cl__law_size {n : Nat} (x0 : PV) : cl (n + 1) f__law_size [x0] = endP true [] (evalPS (FN n) c__law_size.body [some x0, none, none]) := run_of lk__law_size rfl rfl (by decide +kernel) rfl (by decide +kernel)
theorem lk__law_sized : T.lookup f__law_sized = some c__law_sized := rfl
@[simp] theorem io__law_sized : ioF f__law_sized = [false, true] := rfl
@[simp] theorem cb__law_sized {n : Nat} {bs : List BV} {env : PEnv} : callB (FN n) f__law_sized bs env = (takeIO [false, true] bs env).elim .stuck fun q => (argV [false, true] bs q.1 q.2).elim .stuck fun args => endC [false, true] bs q.2 (cl n f__law_sized args) := callB_eq rfl
theorem cl__law_sized {n : Nat} (x0 x1 x2 x3 : PV) : cl (n + 1) f__law_sized [x0, x1, x2, x3] = endP true [false, true] (evalPS (FN n) c__law_sized.body [some x0, some x1, some x2, some x3, none]) := run_of lk__law_sized rfl rfl (by decide +kernel) rfl (by decide +kernel)
theorem lk__law_one : T.lookup f__law_one = some c__law_one := rfl
@[simp] theorem io__law_one : ioF f__law_one = [] := rfl
@[simp] theorem cb__law_one {n : Nat} {bs : List BV} {env : PEnv} : callB (FN n) f__law_one bs env = (takeIO [] bs env).elim .stuck fun q => (argV [] bs q.1 q.2).elim .stuck fun args => endC [] bs q.2 (cl n f__law_one args) := callB_eq rfl
theorem cl__law_one {n : Nat} (x0 x1 : PV) : cl (n + 1) f__law_one [x0, x1] = endP true [] (evalPS (FN n) c__law_one.body [some x0, some x1]) := run_of lk__law_one rfl rfl (by decide +kernel) rfl (by decide +kernel)
theorem lk__law_told : T.lookup f__law_told = some c__law_told := rfl
@[simp] theorem io__law_told : ioF f__law_told = [] := rfl
@[simp] theorem cb__law_told {n : Nat} {bs : List BV} {env : PEnv} : callB (FN n) f__law_told bs env = (takeIO [] bs env).elim .stuck fun q => (argV [] bs q.1 q.2).elim .stuck fun args => endC [] bs q.2 (cl n f__law_told args) := callB_eq rfl
theorem cl__law_told {n : Nat} (x0 x1 : PV) : cl (n + 1) f__law_told [x0, x1] = endP false [] (evalPS (FN n) c__law_told.body [some x0, some x1, none, none, none]) := run_of lk__law_told rfl rfl (by decide +kernel) rfl (by decide +kernel)
theorem lk__law_due : T.lookup f__law_due = some c__law_due := rfl
@[simp] theorem io__law_due : ioF f__law_due = [] := rfl
@[simp] theorem cb__law_due {n : Nat} {bs : List BV} {env : PEnv} : callB (FN n) f__law_due bs env = (takeIO [] bs env).elim .stuck fun q => (argV [] bs q.1 q.2).elim .stuck fun args => endC [] bs q.2 (cl n f__law_due args) := callB_eq rfl
theorem cl__law_due {n : Nat} (x0 x1 : PV) : cl (n + 1) f__law_due [x0, x1] = endP true [] (evalPS (FN n) c__law_due.body [some x0, some x1]) := run_of lk__law_due rfl rfl (by decide +kernel) rfl (by decide +kernel)
theorem lk_law : T.lookup f_law = some c_law := rfl
@[simp] theorem io_law : ioF f_law = [] := rfl
@[simp] theorem cb_law {n : Nat} {bs : List BV} {env : PEnv} : callB (FN n) f_law bs env = (takeIO [] bs env).elim .stuck fun q => (argV [] bs q.1 q.2).elim .stuck fun args => endC [] bs q.2 (cl n f_law args) := callB_eq rfl
theorem cl_law {n : Nat} (x0 : PV) : cl (n + 1) f_law [x0] = endP false [] (evalPS (FN n) c_law.body [some x0, none, none, none, none, none, none, none, none, none, none, none, none, none, none, none, none, none, none, none, none, none]) := run_of lk_law rfl rfl (by decide +kernel) rfl (by decide +kernel)
theorem cz_is_number {n : Nat} (hn : 1 ≤ n) (x0 x1 x2 : PV) : cl n f_is_number [x0, x1, x2] = endP false [] (evalPS (FN (n - 1)) c_is_number.body [some x0, some x1, some x2]) := by
  obtain ⟨m, rfl⟩ : ∃ m, n = m + 1 := ⟨n - 1, by omega⟩
  exact cl_is_number x0 x1 x2
theorem cz_is_turn {n : Nat} (hn : 1 ≤ n) (x0 : PV) : cl n f_is_turn [x0] = endP false [] (evalPS (FN (n - 1)) c_is_turn.body [some x0]) := by
  obtain ⟨m, rfl⟩ : ∃ m, n = m + 1 := ⟨n - 1, by omega⟩
  exact cl_is_turn x0
theorem cz_is_race {n : Nat} (hn : 1 ≤ n) (x0 x1 : PV) : cl n f_is_race [x0, x1] = endP false [] (evalPS (FN (n - 1)) c_is_race.body [some x0, some x1]) := by
  obtain ⟨m, rfl⟩ : ∃ m, n = m + 1 := ⟨n - 1, by omega⟩
  exact cl_is_race x0 x1
theorem cz_is_tied {n : Nat} (hn : 1 ≤ n) (x0 x1 : PV) : cl n f_is_tied [x0, x1] = endP false [] (evalPS (FN (n - 1)) c_is_tied.body [some x0, some x1]) := by
  obtain ⟨m, rfl⟩ : ∃ m, n = m + 1 := ⟨n - 1, by omega⟩
  exact cl_is_tied x0 x1
theorem cz_is_series {n : Nat} (hn : 1 ≤ n) (x0 x1 : PV) : cl n f_is_series [x0, x1] = endP true [] (evalPS (FN (n - 1)) c_is_series.body [some x0, some x1, none]) := by
  obtain ⟨m, rfl⟩ : ∃ m, n = m + 1 := ⟨n - 1, by omega⟩
  exact cl_is_series x0 x1
theorem cz_is_shape {n : Nat} (hn : 1 ≤ n) (x0 x1 : PV) : cl n f_is_shape [x0, x1] = endP false [] (evalPS (FN (n - 1)) c_is_shape.body [some x0, some x1]) := by
  obtain ⟨m, rfl⟩ : ∃ m, n = m + 1 := ⟨n - 1, by omega⟩
  exact cl_is_shape x0 x1
theorem cz_parts {n : Nat} (hn : 1 ≤ n) (x0 : PV) : cl n f_parts [x0] = endP true [] (evalPS (FN (n - 1)) c_parts.body [some x0]) := by
  obtain ⟨m, rfl⟩ : ∃ m, n = m + 1 := ⟨n - 1, by omega⟩
  exact cl_parts x0
theorem cz_size_of {n : Nat} (hn : 1 ≤ n) (x0 : PV) : cl n f_size_of [x0] = endP true [] (evalPS (FN (n - 1)) c_size_of.body [some x0, none]) := by
  obtain ⟨m, rfl⟩ : ∃ m, n = m + 1 := ⟨n - 1, by omega⟩
  exact cl_size_of x0
theorem cz_deep_of {n : Nat} (hn : 1 ≤ n) (x0 : PV) : cl n f_deep_of [x0] = endP true [] (evalPS (FN (n - 1)) c_deep_of.body [some x0, none]) := by
  obtain ⟨m, rfl⟩ : ∃ m, n = m + 1 := ⟨n - 1, by omega⟩
  exact cl_deep_of x0
theorem cz_is_form {n : Nat} (hn : 1 ≤ n) (x0 : PV) : cl n f_is_form [x0] = endP false [] (evalPS (FN (n - 1)) c_is_form.body [some x0]) := by
  obtain ⟨m, rfl⟩ : ∃ m, n = m + 1 := ⟨n - 1, by omega⟩
  exact cl_is_form x0
theorem cz_look_form {n : Nat} (hn : 1 ≤ n) (x0 : PV) : cl n f_look_form [x0] = endP true [] (evalPS (FN (n - 1)) c_look_form.body [some x0]) := by
  obtain ⟨m, rfl⟩ : ∃ m, n = m + 1 := ⟨n - 1, by omega⟩
  exact cl_look_form x0
theorem cz_deep {n : Nat} (hn : 1 ≤ n) (x0 : PV) : cl n f_deep [x0] = endP true [] (evalPS (FN (n - 1)) c_deep.body [some x0]) := by
  obtain ⟨m, rfl⟩ : ∃ m, n = m + 1 := ⟨n - 1, by omega⟩
  exact cl_deep x0
theorem cz_size {n : Nat} (hn : 1 ≤ n) (x0 : PV) : cl n f_size [x0] = endP true [] (evalPS (FN (n - 1)) c_size.body [some x0]) := by
  obtain ⟨m, rfl⟩ : ∃ m, n = m + 1 := ⟨n - 1, by omega⟩
  exact cl_size x0
theorem cz__law_cell {n : Nat} (hn : 1 ≤ n) (x0 x1 : PV) : cl n f__law_cell [x0, x1] = endP true [] (evalPS (FN (n - 1)) c__law_cell.body [some x0, some x1]) := by
  obtain ⟨m, rfl⟩ : ∃ m, n = m + 1 := ⟨n - 1, by omega⟩
  exact cl__law_cell x0 x1
theorem cz__law_mix {n : Nat} (hn : 1 ≤ n) (x0 x1 : PV) : cl n f__law_mix [x0, x1] = endP true [] (evalPS (FN (n - 1)) c__law_mix.body [some x0, some x1, none]) := by
  obtain ⟨m, rfl⟩ : ∃ m, n = m + 1 := ⟨n - 1, by omega⟩
  exact cl__law_mix x0 x1
theorem cz__law_draw {n : Nat} (hn : 1 ≤ n) (x0 x1 x2 : PV) : cl n f__law_draw [x0, x1, x2] = endP true [false, true] (evalPS (FN (n - 1)) c__law_draw.body [some x0, some x1, some x2]) := by
  obtain ⟨m, rfl⟩ : ∃ m, n = m + 1 := ⟨n - 1, by omega⟩
  exact cl__law_draw x0 x1 x2
theorem cz__law_pick {n : Nat} (hn : 1 ≤ n) (x0 x1 x2 : PV) : cl n f__law_pick [x0, x1, x2] = endP true [false, true] (evalPS (FN (n - 1)) c__law_pick.body [some x0, some x1, some x2]) := by
  obtain ⟨m, rfl⟩ : ∃ m, n = m + 1 := ⟨n - 1, by omega⟩
  exact cl__law_pick x0 x1 x2
theorem cz__law_refusal {n : Nat} (hn : 1 ≤ n) (x0 : PV) : cl n f__law_refusal [x0] = endP true [] (evalPS (FN (n - 1)) c__law_refusal.body [some x0, none, none]) := by
  obtain ⟨m, rfl⟩ : ∃ m, n = m + 1 := ⟨n - 1, by omega⟩
  exact cl__law_refusal x0
theorem cz__law_turn {n : Nat} (hn : 1 ≤ n) (x0 x1 : PV) : cl n f__law_turn [x0, x1] = endP true [false, true] (evalPS (FN (n - 1)) c__law_turn.body [some x0, some x1]) := by
  obtain ⟨m, rfl⟩ : ∃ m, n = m + 1 := ⟨n - 1, by omega⟩
  exact cl__law_turn x0 x1
theorem cz__law_form {n : Nat} (hn : 1 ≤ n) (x0 x1 x2 x3 : PV) : cl n f__law_form [x0, x1, x2, x3] = endP true [false, true] (evalPS (FN (n - 1)) c__law_form.body [some x0, some x1, some x2, some x3, none, none, none, none, none, none, none, none]) := by
  obtain ⟨m, rfl⟩ : ∃ m, n = m + 1 := ⟨n - 1, by omega⟩
  exact cl__law_form x0 x1 x2 x3
theorem cz__law_size {n : Nat} (hn : 1 ≤ n) (x0 : PV) : cl n f__law_size [x0] = endP true [] (evalPS (FN (n - 1)) c__law_size.body [some x0, none, none]) := by
  obtain ⟨m, rfl⟩ : ∃ m, n = m + 1 := ⟨n - 1, by omega⟩
  exact cl__law_size x0
theorem cz__law_sized {n : Nat} (hn : 1 ≤ n) (x0 x1 x2 x3 : PV) : cl n f__law_sized [x0, x1, x2, x3] = endP true [false, true] (evalPS (FN (n - 1)) c__law_sized.body [some x0, some x1, some x2, some x3, none]) := by
  obtain ⟨m, rfl⟩ : ∃ m, n = m + 1 := ⟨n - 1, by omega⟩
  exact cl__law_sized x0 x1 x2 x3
theorem cz__law_one {n : Nat} (hn : 1 ≤ n) (x0 x1 : PV) : cl n f__law_one [x0, x1] = endP true [] (evalPS (FN (n - 1)) c__law_one.body [some x0, some x1]) := by
  obtain ⟨m, rfl⟩ : ∃ m, n = m + 1 := ⟨n - 1, by omega⟩
  exact cl__law_one x0 x1
theorem cz__law_told {n : Nat} (hn : 1 ≤ n) (x0 x1 : PV) : cl n f__law_told [x0, x1] = endP false [] (evalPS (FN (n - 1)) c__law_told.body [some x0, some x1, none, none, none]) := by
  obtain ⟨m, rfl⟩ : ∃ m, n = m + 1 := ⟨n - 1, by omega⟩
  exact cl__law_told x0 x1
theorem cz__law_due {n : Nat} (hn : 1 ≤ n) (x0 x1 : PV) : cl n f__law_due [x0, x1] = endP true [] (evalPS (FN (n - 1)) c__law_due.body [some x0, some x1]) := by
  obtain ⟨m, rfl⟩ : ∃ m, n = m + 1 := ⟨n - 1, by omega⟩
  exact cl__law_due x0 x1
theorem cz_law {n : Nat} (hn : 1 ≤ n) (x0 : PV) : cl n f_law [x0] = endP false [] (evalPS (FN (n - 1)) c_law.body [some x0, none, none, none, none, none, none, none, none, none, none, none, none, none, none, none, none, none, none, none, none, none]) := by
  obtain ⟨m, rfl⟩ : ∃ m, n = m + 1 := ⟨n - 1, by omega⟩
  exact cl_law x0
@[simp] theorem gp_TURNS : gp s_TURNS = some (.tup [(.str s_keep), (.str s_each), (.str s_twos), (.str s_pairs), (.str s_winner), (.str s_on)]) := rfl
@[simp] theorem gp_MOST_DEEP : gp s_MOST_DEEP = some (.int 4) := rfl
@[simp] theorem gp_MOST_SIZE : gp s_MOST_SIZE = some (.int 20) := rfl
@[simp] theorem gp_MOST_GOAL : gp s_MOST_GOAL = some (.int 30) := rfl
@[simp] theorem gp_MOST_LEAD : gp s_MOST_LEAD = some (.int 3) := rfl
@[simp] theorem gp_SERIES : gp s_SERIES = some (.tup [(.int 1), (.int 3), (.int 5), (.int 7)]) := rfl
/-! ### the texts differ -/
@[simp] theorem ne_s_series_s_tied : (s_series = s_tied) = False := eq_false (by decide)
@[simp] theorem ne_s_series_s_race : (s_series = s_race) = False := eq_false (by decide)
@[simp] theorem ne_s_series_s_point : (s_series = s_point) = False := eq_false (by decide)
@[simp] theorem ne_s_series_s_match : (s_series = s_match) = False := eq_false (by decide)
@[simp] theorem ne_s_series_s_no_name : (s_series = s_no_name) = False := eq_false (by decide)
@[simp] theorem ne_s_series_s_name : (s_series = s_name) = False := eq_false (by decide)
@[simp] theorem ne_s_series_s_text : (s_series = s_text) = False := eq_false (by decide)
@[simp] theorem ne_s_series_s_refused : (s_series = s_refused) = False := eq_false (by decide)
@[simp] theorem ne_s_series_s_share : (s_series = s_share) = False := eq_false (by decide)
@[simp] theorem ne_s_series_s_number : (s_series = s_number) = False := eq_false (by decide)
@[simp] theorem ne_s_series_s_nothing : (s_series = s_nothing) = False := eq_false (by decide)
@[simp] theorem ne_s_series_s_stuck : (s_series = s_stuck) = False := eq_false (by decide)
@[simp] theorem ne_s_series_s_full : (s_series = s_full) = False := eq_false (by decide)
@[simp] theorem ne_s_series_s_gift : (s_series = s_gift) = False := eq_false (by decide)
@[simp] theorem ne_s_series_s_tree : (s_series = s_tree) = False := eq_false (by decide)
@[simp] theorem ne_s_series_s_not_over : (s_series = s_not_over) = False := eq_false (by decide)
@[simp] theorem ne_s_series_s_row : (s_series = s_row) = False := eq_false (by decide)
@[simp] theorem ne_s_series_s_side : (s_series = s_side) = False := eq_false (by decide)
@[simp] theorem ne_s_series_s_form : (s_series = s_form) = False := eq_false (by decide)
@[simp] theorem ne_s_series_s_over : (s_series = s_over) = False := eq_false (by decide)
@[simp] theorem ne_s_series_s_wrong : (s_series = s_wrong) = False := eq_false (by decide)
@[simp] theorem ne_s_series_s_ok : (s_series = s_ok) = False := eq_false (by decide)
@[simp] theorem ne_s_series_s_on : (s_series = s_on) = False := eq_false (by decide)
@[simp] theorem ne_s_series_s_winner : (s_series = s_winner) = False := eq_false (by decide)
@[simp] theorem ne_s_series_s_pairs : (s_series = s_pairs) = False := eq_false (by decide)
@[simp] theorem ne_s_series_s_twos : (s_series = s_twos) = False := eq_false (by decide)
@[simp] theorem ne_s_series_s_each : (s_series = s_each) = False := eq_false (by decide)
@[simp] theorem ne_s_series_s_keep : (s_series = s_keep) = False := eq_false (by decide)
@[simp] theorem ne_s_series_s_found : (s_series = s_found) = False := eq_false (by decide)
@[simp] theorem ne_s_tied_s_series : (s_tied = s_series) = False := eq_false (by decide)
@[simp] theorem ne_s_tied_s_race : (s_tied = s_race) = False := eq_false (by decide)
@[simp] theorem ne_s_tied_s_point : (s_tied = s_point) = False := eq_false (by decide)
@[simp] theorem ne_s_tied_s_match : (s_tied = s_match) = False := eq_false (by decide)
@[simp] theorem ne_s_tied_s_no_name : (s_tied = s_no_name) = False := eq_false (by decide)
@[simp] theorem ne_s_tied_s_name : (s_tied = s_name) = False := eq_false (by decide)
@[simp] theorem ne_s_tied_s_text : (s_tied = s_text) = False := eq_false (by decide)
@[simp] theorem ne_s_tied_s_refused : (s_tied = s_refused) = False := eq_false (by decide)
@[simp] theorem ne_s_tied_s_share : (s_tied = s_share) = False := eq_false (by decide)
@[simp] theorem ne_s_tied_s_number : (s_tied = s_number) = False := eq_false (by decide)
@[simp] theorem ne_s_tied_s_nothing : (s_tied = s_nothing) = False := eq_false (by decide)
@[simp] theorem ne_s_tied_s_stuck : (s_tied = s_stuck) = False := eq_false (by decide)
@[simp] theorem ne_s_tied_s_full : (s_tied = s_full) = False := eq_false (by decide)
@[simp] theorem ne_s_tied_s_gift : (s_tied = s_gift) = False := eq_false (by decide)
@[simp] theorem ne_s_tied_s_tree : (s_tied = s_tree) = False := eq_false (by decide)
@[simp] theorem ne_s_tied_s_not_over : (s_tied = s_not_over) = False := eq_false (by decide)
@[simp] theorem ne_s_tied_s_row : (s_tied = s_row) = False := eq_false (by decide)
@[simp] theorem ne_s_tied_s_side : (s_tied = s_side) = False := eq_false (by decide)
@[simp] theorem ne_s_tied_s_form : (s_tied = s_form) = False := eq_false (by decide)
@[simp] theorem ne_s_tied_s_over : (s_tied = s_over) = False := eq_false (by decide)
@[simp] theorem ne_s_tied_s_wrong : (s_tied = s_wrong) = False := eq_false (by decide)
@[simp] theorem ne_s_tied_s_ok : (s_tied = s_ok) = False := eq_false (by decide)
@[simp] theorem ne_s_tied_s_on : (s_tied = s_on) = False := eq_false (by decide)
@[simp] theorem ne_s_tied_s_winner : (s_tied = s_winner) = False := eq_false (by decide)
@[simp] theorem ne_s_tied_s_pairs : (s_tied = s_pairs) = False := eq_false (by decide)
@[simp] theorem ne_s_tied_s_twos : (s_tied = s_twos) = False := eq_false (by decide)
@[simp] theorem ne_s_tied_s_each : (s_tied = s_each) = False := eq_false (by decide)
@[simp] theorem ne_s_tied_s_keep : (s_tied = s_keep) = False := eq_false (by decide)
@[simp] theorem ne_s_tied_s_found : (s_tied = s_found) = False := eq_false (by decide)
@[simp] theorem ne_s_race_s_series : (s_race = s_series) = False := eq_false (by decide)
@[simp] theorem ne_s_race_s_tied : (s_race = s_tied) = False := eq_false (by decide)
@[simp] theorem ne_s_race_s_point : (s_race = s_point) = False := eq_false (by decide)
@[simp] theorem ne_s_race_s_match : (s_race = s_match) = False := eq_false (by decide)
@[simp] theorem ne_s_race_s_no_name : (s_race = s_no_name) = False := eq_false (by decide)
@[simp] theorem ne_s_race_s_name : (s_race = s_name) = False := eq_false (by decide)
@[simp] theorem ne_s_race_s_text : (s_race = s_text) = False := eq_false (by decide)
@[simp] theorem ne_s_race_s_refused : (s_race = s_refused) = False := eq_false (by decide)
@[simp] theorem ne_s_race_s_share : (s_race = s_share) = False := eq_false (by decide)
@[simp] theorem ne_s_race_s_number : (s_race = s_number) = False := eq_false (by decide)
@[simp] theorem ne_s_race_s_nothing : (s_race = s_nothing) = False := eq_false (by decide)
@[simp] theorem ne_s_race_s_stuck : (s_race = s_stuck) = False := eq_false (by decide)
@[simp] theorem ne_s_race_s_full : (s_race = s_full) = False := eq_false (by decide)
@[simp] theorem ne_s_race_s_gift : (s_race = s_gift) = False := eq_false (by decide)
@[simp] theorem ne_s_race_s_tree : (s_race = s_tree) = False := eq_false (by decide)
@[simp] theorem ne_s_race_s_not_over : (s_race = s_not_over) = False := eq_false (by decide)
@[simp] theorem ne_s_race_s_row : (s_race = s_row) = False := eq_false (by decide)
@[simp] theorem ne_s_race_s_side : (s_race = s_side) = False := eq_false (by decide)
@[simp] theorem ne_s_race_s_form : (s_race = s_form) = False := eq_false (by decide)
@[simp] theorem ne_s_race_s_over : (s_race = s_over) = False := eq_false (by decide)
@[simp] theorem ne_s_race_s_wrong : (s_race = s_wrong) = False := eq_false (by decide)
@[simp] theorem ne_s_race_s_ok : (s_race = s_ok) = False := eq_false (by decide)
@[simp] theorem ne_s_race_s_on : (s_race = s_on) = False := eq_false (by decide)
@[simp] theorem ne_s_race_s_winner : (s_race = s_winner) = False := eq_false (by decide)
@[simp] theorem ne_s_race_s_pairs : (s_race = s_pairs) = False := eq_false (by decide)
@[simp] theorem ne_s_race_s_twos : (s_race = s_twos) = False := eq_false (by decide)
@[simp] theorem ne_s_race_s_each : (s_race = s_each) = False := eq_false (by decide)
@[simp] theorem ne_s_race_s_keep : (s_race = s_keep) = False := eq_false (by decide)
@[simp] theorem ne_s_race_s_found : (s_race = s_found) = False := eq_false (by decide)
@[simp] theorem ne_s_point_s_series : (s_point = s_series) = False := eq_false (by decide)
@[simp] theorem ne_s_point_s_tied : (s_point = s_tied) = False := eq_false (by decide)
@[simp] theorem ne_s_point_s_race : (s_point = s_race) = False := eq_false (by decide)
@[simp] theorem ne_s_point_s_match : (s_point = s_match) = False := eq_false (by decide)
@[simp] theorem ne_s_point_s_no_name : (s_point = s_no_name) = False := eq_false (by decide)
@[simp] theorem ne_s_point_s_name : (s_point = s_name) = False := eq_false (by decide)
@[simp] theorem ne_s_point_s_text : (s_point = s_text) = False := eq_false (by decide)
@[simp] theorem ne_s_point_s_refused : (s_point = s_refused) = False := eq_false (by decide)
@[simp] theorem ne_s_point_s_share : (s_point = s_share) = False := eq_false (by decide)
@[simp] theorem ne_s_point_s_number : (s_point = s_number) = False := eq_false (by decide)
@[simp] theorem ne_s_point_s_nothing : (s_point = s_nothing) = False := eq_false (by decide)
@[simp] theorem ne_s_point_s_stuck : (s_point = s_stuck) = False := eq_false (by decide)
@[simp] theorem ne_s_point_s_full : (s_point = s_full) = False := eq_false (by decide)
@[simp] theorem ne_s_point_s_gift : (s_point = s_gift) = False := eq_false (by decide)
@[simp] theorem ne_s_point_s_tree : (s_point = s_tree) = False := eq_false (by decide)
@[simp] theorem ne_s_point_s_not_over : (s_point = s_not_over) = False := eq_false (by decide)
@[simp] theorem ne_s_point_s_row : (s_point = s_row) = False := eq_false (by decide)
@[simp] theorem ne_s_point_s_side : (s_point = s_side) = False := eq_false (by decide)
@[simp] theorem ne_s_point_s_form : (s_point = s_form) = False := eq_false (by decide)
@[simp] theorem ne_s_point_s_over : (s_point = s_over) = False := eq_false (by decide)
@[simp] theorem ne_s_point_s_wrong : (s_point = s_wrong) = False := eq_false (by decide)
@[simp] theorem ne_s_point_s_ok : (s_point = s_ok) = False := eq_false (by decide)
@[simp] theorem ne_s_point_s_on : (s_point = s_on) = False := eq_false (by decide)
@[simp] theorem ne_s_point_s_winner : (s_point = s_winner) = False := eq_false (by decide)
@[simp] theorem ne_s_point_s_pairs : (s_point = s_pairs) = False := eq_false (by decide)
@[simp] theorem ne_s_point_s_twos : (s_point = s_twos) = False := eq_false (by decide)
@[simp] theorem ne_s_point_s_each : (s_point = s_each) = False := eq_false (by decide)
@[simp] theorem ne_s_point_s_keep : (s_point = s_keep) = False := eq_false (by decide)
@[simp] theorem ne_s_point_s_found : (s_point = s_found) = False := eq_false (by decide)
@[simp] theorem ne_s_match_s_series : (s_match = s_series) = False := eq_false (by decide)
@[simp] theorem ne_s_match_s_tied : (s_match = s_tied) = False := eq_false (by decide)
@[simp] theorem ne_s_match_s_race : (s_match = s_race) = False := eq_false (by decide)
@[simp] theorem ne_s_match_s_point : (s_match = s_point) = False := eq_false (by decide)
@[simp] theorem ne_s_match_s_no_name : (s_match = s_no_name) = False := eq_false (by decide)
@[simp] theorem ne_s_match_s_name : (s_match = s_name) = False := eq_false (by decide)
@[simp] theorem ne_s_match_s_text : (s_match = s_text) = False := eq_false (by decide)
@[simp] theorem ne_s_match_s_refused : (s_match = s_refused) = False := eq_false (by decide)
@[simp] theorem ne_s_match_s_share : (s_match = s_share) = False := eq_false (by decide)
@[simp] theorem ne_s_match_s_number : (s_match = s_number) = False := eq_false (by decide)
@[simp] theorem ne_s_match_s_nothing : (s_match = s_nothing) = False := eq_false (by decide)
@[simp] theorem ne_s_match_s_stuck : (s_match = s_stuck) = False := eq_false (by decide)
@[simp] theorem ne_s_match_s_full : (s_match = s_full) = False := eq_false (by decide)
@[simp] theorem ne_s_match_s_gift : (s_match = s_gift) = False := eq_false (by decide)
@[simp] theorem ne_s_match_s_tree : (s_match = s_tree) = False := eq_false (by decide)
@[simp] theorem ne_s_match_s_not_over : (s_match = s_not_over) = False := eq_false (by decide)
@[simp] theorem ne_s_match_s_row : (s_match = s_row) = False := eq_false (by decide)
@[simp] theorem ne_s_match_s_side : (s_match = s_side) = False := eq_false (by decide)
@[simp] theorem ne_s_match_s_form : (s_match = s_form) = False := eq_false (by decide)
@[simp] theorem ne_s_match_s_over : (s_match = s_over) = False := eq_false (by decide)
@[simp] theorem ne_s_match_s_wrong : (s_match = s_wrong) = False := eq_false (by decide)
@[simp] theorem ne_s_match_s_ok : (s_match = s_ok) = False := eq_false (by decide)
@[simp] theorem ne_s_match_s_on : (s_match = s_on) = False := eq_false (by decide)
@[simp] theorem ne_s_match_s_winner : (s_match = s_winner) = False := eq_false (by decide)
@[simp] theorem ne_s_match_s_pairs : (s_match = s_pairs) = False := eq_false (by decide)
@[simp] theorem ne_s_match_s_twos : (s_match = s_twos) = False := eq_false (by decide)
@[simp] theorem ne_s_match_s_each : (s_match = s_each) = False := eq_false (by decide)
@[simp] theorem ne_s_match_s_keep : (s_match = s_keep) = False := eq_false (by decide)
@[simp] theorem ne_s_match_s_found : (s_match = s_found) = False := eq_false (by decide)
@[simp] theorem ne_s_no_name_s_series : (s_no_name = s_series) = False := eq_false (by decide)
@[simp] theorem ne_s_no_name_s_tied : (s_no_name = s_tied) = False := eq_false (by decide)
@[simp] theorem ne_s_no_name_s_race : (s_no_name = s_race) = False := eq_false (by decide)
@[simp] theorem ne_s_no_name_s_point : (s_no_name = s_point) = False := eq_false (by decide)
@[simp] theorem ne_s_no_name_s_match : (s_no_name = s_match) = False := eq_false (by decide)
@[simp] theorem ne_s_no_name_s_name : (s_no_name = s_name) = False := eq_false (by decide)
@[simp] theorem ne_s_no_name_s_text : (s_no_name = s_text) = False := eq_false (by decide)
@[simp] theorem ne_s_no_name_s_refused : (s_no_name = s_refused) = False := eq_false (by decide)
@[simp] theorem ne_s_no_name_s_share : (s_no_name = s_share) = False := eq_false (by decide)
@[simp] theorem ne_s_no_name_s_number : (s_no_name = s_number) = False := eq_false (by decide)
@[simp] theorem ne_s_no_name_s_nothing : (s_no_name = s_nothing) = False := eq_false (by decide)
@[simp] theorem ne_s_no_name_s_stuck : (s_no_name = s_stuck) = False := eq_false (by decide)
@[simp] theorem ne_s_no_name_s_full : (s_no_name = s_full) = False := eq_false (by decide)
@[simp] theorem ne_s_no_name_s_gift : (s_no_name = s_gift) = False := eq_false (by decide)
@[simp] theorem ne_s_no_name_s_tree : (s_no_name = s_tree) = False := eq_false (by decide)
@[simp] theorem ne_s_no_name_s_not_over : (s_no_name = s_not_over) = False := eq_false (by decide)
@[simp] theorem ne_s_no_name_s_row : (s_no_name = s_row) = False := eq_false (by decide)
@[simp] theorem ne_s_no_name_s_side : (s_no_name = s_side) = False := eq_false (by decide)
@[simp] theorem ne_s_no_name_s_form : (s_no_name = s_form) = False := eq_false (by decide)
@[simp] theorem ne_s_no_name_s_over : (s_no_name = s_over) = False := eq_false (by decide)
@[simp] theorem ne_s_no_name_s_wrong : (s_no_name = s_wrong) = False := eq_false (by decide)
@[simp] theorem ne_s_no_name_s_ok : (s_no_name = s_ok) = False := eq_false (by decide)
@[simp] theorem ne_s_no_name_s_on : (s_no_name = s_on) = False := eq_false (by decide)
@[simp] theorem ne_s_no_name_s_winner : (s_no_name = s_winner) = False := eq_false (by decide)
@[simp] theorem ne_s_no_name_s_pairs : (s_no_name = s_pairs) = False := eq_false (by decide)
@[simp] theorem ne_s_no_name_s_twos : (s_no_name = s_twos) = False := eq_false (by decide)
@[simp] theorem ne_s_no_name_s_each : (s_no_name = s_each) = False := eq_false (by decide)
@[simp] theorem ne_s_no_name_s_keep : (s_no_name = s_keep) = False := eq_false (by decide)
@[simp] theorem ne_s_no_name_s_found : (s_no_name = s_found) = False := eq_false (by decide)
@[simp] theorem ne_s_name_s_series : (s_name = s_series) = False := eq_false (by decide)
@[simp] theorem ne_s_name_s_tied : (s_name = s_tied) = False := eq_false (by decide)
@[simp] theorem ne_s_name_s_race : (s_name = s_race) = False := eq_false (by decide)
@[simp] theorem ne_s_name_s_point : (s_name = s_point) = False := eq_false (by decide)
@[simp] theorem ne_s_name_s_match : (s_name = s_match) = False := eq_false (by decide)
@[simp] theorem ne_s_name_s_no_name : (s_name = s_no_name) = False := eq_false (by decide)
@[simp] theorem ne_s_name_s_text : (s_name = s_text) = False := eq_false (by decide)
@[simp] theorem ne_s_name_s_refused : (s_name = s_refused) = False := eq_false (by decide)
@[simp] theorem ne_s_name_s_share : (s_name = s_share) = False := eq_false (by decide)
@[simp] theorem ne_s_name_s_number : (s_name = s_number) = False := eq_false (by decide)
@[simp] theorem ne_s_name_s_nothing : (s_name = s_nothing) = False := eq_false (by decide)
@[simp] theorem ne_s_name_s_stuck : (s_name = s_stuck) = False := eq_false (by decide)
@[simp] theorem ne_s_name_s_full : (s_name = s_full) = False := eq_false (by decide)
@[simp] theorem ne_s_name_s_gift : (s_name = s_gift) = False := eq_false (by decide)
@[simp] theorem ne_s_name_s_tree : (s_name = s_tree) = False := eq_false (by decide)
@[simp] theorem ne_s_name_s_not_over : (s_name = s_not_over) = False := eq_false (by decide)
@[simp] theorem ne_s_name_s_row : (s_name = s_row) = False := eq_false (by decide)
@[simp] theorem ne_s_name_s_side : (s_name = s_side) = False := eq_false (by decide)
@[simp] theorem ne_s_name_s_form : (s_name = s_form) = False := eq_false (by decide)
@[simp] theorem ne_s_name_s_over : (s_name = s_over) = False := eq_false (by decide)
@[simp] theorem ne_s_name_s_wrong : (s_name = s_wrong) = False := eq_false (by decide)
@[simp] theorem ne_s_name_s_ok : (s_name = s_ok) = False := eq_false (by decide)
@[simp] theorem ne_s_name_s_on : (s_name = s_on) = False := eq_false (by decide)
@[simp] theorem ne_s_name_s_winner : (s_name = s_winner) = False := eq_false (by decide)
@[simp] theorem ne_s_name_s_pairs : (s_name = s_pairs) = False := eq_false (by decide)
@[simp] theorem ne_s_name_s_twos : (s_name = s_twos) = False := eq_false (by decide)
@[simp] theorem ne_s_name_s_each : (s_name = s_each) = False := eq_false (by decide)
@[simp] theorem ne_s_name_s_keep : (s_name = s_keep) = False := eq_false (by decide)
@[simp] theorem ne_s_name_s_found : (s_name = s_found) = False := eq_false (by decide)
@[simp] theorem ne_s_text_s_series : (s_text = s_series) = False := eq_false (by decide)
@[simp] theorem ne_s_text_s_tied : (s_text = s_tied) = False := eq_false (by decide)
@[simp] theorem ne_s_text_s_race : (s_text = s_race) = False := eq_false (by decide)
@[simp] theorem ne_s_text_s_point : (s_text = s_point) = False := eq_false (by decide)
@[simp] theorem ne_s_text_s_match : (s_text = s_match) = False := eq_false (by decide)
@[simp] theorem ne_s_text_s_no_name : (s_text = s_no_name) = False := eq_false (by decide)
@[simp] theorem ne_s_text_s_name : (s_text = s_name) = False := eq_false (by decide)
@[simp] theorem ne_s_text_s_refused : (s_text = s_refused) = False := eq_false (by decide)
@[simp] theorem ne_s_text_s_share : (s_text = s_share) = False := eq_false (by decide)
@[simp] theorem ne_s_text_s_number : (s_text = s_number) = False := eq_false (by decide)
@[simp] theorem ne_s_text_s_nothing : (s_text = s_nothing) = False := eq_false (by decide)
@[simp] theorem ne_s_text_s_stuck : (s_text = s_stuck) = False := eq_false (by decide)
@[simp] theorem ne_s_text_s_full : (s_text = s_full) = False := eq_false (by decide)
@[simp] theorem ne_s_text_s_gift : (s_text = s_gift) = False := eq_false (by decide)
@[simp] theorem ne_s_text_s_tree : (s_text = s_tree) = False := eq_false (by decide)
@[simp] theorem ne_s_text_s_not_over : (s_text = s_not_over) = False := eq_false (by decide)
@[simp] theorem ne_s_text_s_row : (s_text = s_row) = False := eq_false (by decide)
@[simp] theorem ne_s_text_s_side : (s_text = s_side) = False := eq_false (by decide)
@[simp] theorem ne_s_text_s_form : (s_text = s_form) = False := eq_false (by decide)
@[simp] theorem ne_s_text_s_over : (s_text = s_over) = False := eq_false (by decide)
@[simp] theorem ne_s_text_s_wrong : (s_text = s_wrong) = False := eq_false (by decide)
@[simp] theorem ne_s_text_s_ok : (s_text = s_ok) = False := eq_false (by decide)
@[simp] theorem ne_s_text_s_on : (s_text = s_on) = False := eq_false (by decide)
@[simp] theorem ne_s_text_s_winner : (s_text = s_winner) = False := eq_false (by decide)
@[simp] theorem ne_s_text_s_pairs : (s_text = s_pairs) = False := eq_false (by decide)
@[simp] theorem ne_s_text_s_twos : (s_text = s_twos) = False := eq_false (by decide)
@[simp] theorem ne_s_text_s_each : (s_text = s_each) = False := eq_false (by decide)
@[simp] theorem ne_s_text_s_keep : (s_text = s_keep) = False := eq_false (by decide)
@[simp] theorem ne_s_text_s_found : (s_text = s_found) = False := eq_false (by decide)
@[simp] theorem ne_s_refused_s_series : (s_refused = s_series) = False := eq_false (by decide)
@[simp] theorem ne_s_refused_s_tied : (s_refused = s_tied) = False := eq_false (by decide)
@[simp] theorem ne_s_refused_s_race : (s_refused = s_race) = False := eq_false (by decide)
@[simp] theorem ne_s_refused_s_point : (s_refused = s_point) = False := eq_false (by decide)
@[simp] theorem ne_s_refused_s_match : (s_refused = s_match) = False := eq_false (by decide)
@[simp] theorem ne_s_refused_s_no_name : (s_refused = s_no_name) = False := eq_false (by decide)
@[simp] theorem ne_s_refused_s_name : (s_refused = s_name) = False := eq_false (by decide)
@[simp] theorem ne_s_refused_s_text : (s_refused = s_text) = False := eq_false (by decide)
@[simp] theorem ne_s_refused_s_share : (s_refused = s_share) = False := eq_false (by decide)
@[simp] theorem ne_s_refused_s_number : (s_refused = s_number) = False := eq_false (by decide)
@[simp] theorem ne_s_refused_s_nothing : (s_refused = s_nothing) = False := eq_false (by decide)
@[simp] theorem ne_s_refused_s_stuck : (s_refused = s_stuck) = False := eq_false (by decide)
@[simp] theorem ne_s_refused_s_full : (s_refused = s_full) = False := eq_false (by decide)
@[simp] theorem ne_s_refused_s_gift : (s_refused = s_gift) = False := eq_false (by decide)
@[simp] theorem ne_s_refused_s_tree : (s_refused = s_tree) = False := eq_false (by decide)
@[simp] theorem ne_s_refused_s_not_over : (s_refused = s_not_over) = False := eq_false (by decide)
@[simp] theorem ne_s_refused_s_row : (s_refused = s_row) = False := eq_false (by decide)
@[simp] theorem ne_s_refused_s_side : (s_refused = s_side) = False := eq_false (by decide)
@[simp] theorem ne_s_refused_s_form : (s_refused = s_form) = False := eq_false (by decide)
@[simp] theorem ne_s_refused_s_over : (s_refused = s_over) = False := eq_false (by decide)
@[simp] theorem ne_s_refused_s_wrong : (s_refused = s_wrong) = False := eq_false (by decide)
@[simp] theorem ne_s_refused_s_ok : (s_refused = s_ok) = False := eq_false (by decide)
@[simp] theorem ne_s_refused_s_on : (s_refused = s_on) = False := eq_false (by decide)
@[simp] theorem ne_s_refused_s_winner : (s_refused = s_winner) = False := eq_false (by decide)
@[simp] theorem ne_s_refused_s_pairs : (s_refused = s_pairs) = False := eq_false (by decide)
@[simp] theorem ne_s_refused_s_twos : (s_refused = s_twos) = False := eq_false (by decide)
@[simp] theorem ne_s_refused_s_each : (s_refused = s_each) = False := eq_false (by decide)
@[simp] theorem ne_s_refused_s_keep : (s_refused = s_keep) = False := eq_false (by decide)
@[simp] theorem ne_s_refused_s_found : (s_refused = s_found) = False := eq_false (by decide)
@[simp] theorem ne_s_share_s_series : (s_share = s_series) = False := eq_false (by decide)
@[simp] theorem ne_s_share_s_tied : (s_share = s_tied) = False := eq_false (by decide)
@[simp] theorem ne_s_share_s_race : (s_share = s_race) = False := eq_false (by decide)
@[simp] theorem ne_s_share_s_point : (s_share = s_point) = False := eq_false (by decide)
@[simp] theorem ne_s_share_s_match : (s_share = s_match) = False := eq_false (by decide)
@[simp] theorem ne_s_share_s_no_name : (s_share = s_no_name) = False := eq_false (by decide)
@[simp] theorem ne_s_share_s_name : (s_share = s_name) = False := eq_false (by decide)
@[simp] theorem ne_s_share_s_text : (s_share = s_text) = False := eq_false (by decide)
@[simp] theorem ne_s_share_s_refused : (s_share = s_refused) = False := eq_false (by decide)
@[simp] theorem ne_s_share_s_number : (s_share = s_number) = False := eq_false (by decide)
@[simp] theorem ne_s_share_s_nothing : (s_share = s_nothing) = False := eq_false (by decide)
@[simp] theorem ne_s_share_s_stuck : (s_share = s_stuck) = False := eq_false (by decide)
@[simp] theorem ne_s_share_s_full : (s_share = s_full) = False := eq_false (by decide)
@[simp] theorem ne_s_share_s_gift : (s_share = s_gift) = False := eq_false (by decide)
@[simp] theorem ne_s_share_s_tree : (s_share = s_tree) = False := eq_false (by decide)
@[simp] theorem ne_s_share_s_not_over : (s_share = s_not_over) = False := eq_false (by decide)
@[simp] theorem ne_s_share_s_row : (s_share = s_row) = False := eq_false (by decide)
@[simp] theorem ne_s_share_s_side : (s_share = s_side) = False := eq_false (by decide)
@[simp] theorem ne_s_share_s_form : (s_share = s_form) = False := eq_false (by decide)
@[simp] theorem ne_s_share_s_over : (s_share = s_over) = False := eq_false (by decide)
@[simp] theorem ne_s_share_s_wrong : (s_share = s_wrong) = False := eq_false (by decide)
@[simp] theorem ne_s_share_s_ok : (s_share = s_ok) = False := eq_false (by decide)
@[simp] theorem ne_s_share_s_on : (s_share = s_on) = False := eq_false (by decide)
@[simp] theorem ne_s_share_s_winner : (s_share = s_winner) = False := eq_false (by decide)
@[simp] theorem ne_s_share_s_pairs : (s_share = s_pairs) = False := eq_false (by decide)
@[simp] theorem ne_s_share_s_twos : (s_share = s_twos) = False := eq_false (by decide)
@[simp] theorem ne_s_share_s_each : (s_share = s_each) = False := eq_false (by decide)
@[simp] theorem ne_s_share_s_keep : (s_share = s_keep) = False := eq_false (by decide)
@[simp] theorem ne_s_share_s_found : (s_share = s_found) = False := eq_false (by decide)
@[simp] theorem ne_s_number_s_series : (s_number = s_series) = False := eq_false (by decide)
@[simp] theorem ne_s_number_s_tied : (s_number = s_tied) = False := eq_false (by decide)
@[simp] theorem ne_s_number_s_race : (s_number = s_race) = False := eq_false (by decide)
@[simp] theorem ne_s_number_s_point : (s_number = s_point) = False := eq_false (by decide)
@[simp] theorem ne_s_number_s_match : (s_number = s_match) = False := eq_false (by decide)
@[simp] theorem ne_s_number_s_no_name : (s_number = s_no_name) = False := eq_false (by decide)
@[simp] theorem ne_s_number_s_name : (s_number = s_name) = False := eq_false (by decide)
@[simp] theorem ne_s_number_s_text : (s_number = s_text) = False := eq_false (by decide)
@[simp] theorem ne_s_number_s_refused : (s_number = s_refused) = False := eq_false (by decide)
@[simp] theorem ne_s_number_s_share : (s_number = s_share) = False := eq_false (by decide)
@[simp] theorem ne_s_number_s_nothing : (s_number = s_nothing) = False := eq_false (by decide)
@[simp] theorem ne_s_number_s_stuck : (s_number = s_stuck) = False := eq_false (by decide)
@[simp] theorem ne_s_number_s_full : (s_number = s_full) = False := eq_false (by decide)
@[simp] theorem ne_s_number_s_gift : (s_number = s_gift) = False := eq_false (by decide)
@[simp] theorem ne_s_number_s_tree : (s_number = s_tree) = False := eq_false (by decide)
@[simp] theorem ne_s_number_s_not_over : (s_number = s_not_over) = False := eq_false (by decide)
@[simp] theorem ne_s_number_s_row : (s_number = s_row) = False := eq_false (by decide)
@[simp] theorem ne_s_number_s_side : (s_number = s_side) = False := eq_false (by decide)
@[simp] theorem ne_s_number_s_form : (s_number = s_form) = False := eq_false (by decide)
@[simp] theorem ne_s_number_s_over : (s_number = s_over) = False := eq_false (by decide)
@[simp] theorem ne_s_number_s_wrong : (s_number = s_wrong) = False := eq_false (by decide)
@[simp] theorem ne_s_number_s_ok : (s_number = s_ok) = False := eq_false (by decide)
@[simp] theorem ne_s_number_s_on : (s_number = s_on) = False := eq_false (by decide)
@[simp] theorem ne_s_number_s_winner : (s_number = s_winner) = False := eq_false (by decide)
@[simp] theorem ne_s_number_s_pairs : (s_number = s_pairs) = False := eq_false (by decide)
@[simp] theorem ne_s_number_s_twos : (s_number = s_twos) = False := eq_false (by decide)
@[simp] theorem ne_s_number_s_each : (s_number = s_each) = False := eq_false (by decide)
@[simp] theorem ne_s_number_s_keep : (s_number = s_keep) = False := eq_false (by decide)
@[simp] theorem ne_s_number_s_found : (s_number = s_found) = False := eq_false (by decide)
@[simp] theorem ne_s_nothing_s_series : (s_nothing = s_series) = False := eq_false (by decide)
@[simp] theorem ne_s_nothing_s_tied : (s_nothing = s_tied) = False := eq_false (by decide)
@[simp] theorem ne_s_nothing_s_race : (s_nothing = s_race) = False := eq_false (by decide)
@[simp] theorem ne_s_nothing_s_point : (s_nothing = s_point) = False := eq_false (by decide)
@[simp] theorem ne_s_nothing_s_match : (s_nothing = s_match) = False := eq_false (by decide)
@[simp] theorem ne_s_nothing_s_no_name : (s_nothing = s_no_name) = False := eq_false (by decide)
@[simp] theorem ne_s_nothing_s_name : (s_nothing = s_name) = False := eq_false (by decide)
@[simp] theorem ne_s_nothing_s_text : (s_nothing = s_text) = False := eq_false (by decide)
@[simp] theorem ne_s_nothing_s_refused : (s_nothing = s_refused) = False := eq_false (by decide)
@[simp] theorem ne_s_nothing_s_share : (s_nothing = s_share) = False := eq_false (by decide)
@[simp] theorem ne_s_nothing_s_number : (s_nothing = s_number) = False := eq_false (by decide)
@[simp] theorem ne_s_nothing_s_stuck : (s_nothing = s_stuck) = False := eq_false (by decide)
@[simp] theorem ne_s_nothing_s_full : (s_nothing = s_full) = False := eq_false (by decide)
@[simp] theorem ne_s_nothing_s_gift : (s_nothing = s_gift) = False := eq_false (by decide)
@[simp] theorem ne_s_nothing_s_tree : (s_nothing = s_tree) = False := eq_false (by decide)
@[simp] theorem ne_s_nothing_s_not_over : (s_nothing = s_not_over) = False := eq_false (by decide)
@[simp] theorem ne_s_nothing_s_row : (s_nothing = s_row) = False := eq_false (by decide)
@[simp] theorem ne_s_nothing_s_side : (s_nothing = s_side) = False := eq_false (by decide)
@[simp] theorem ne_s_nothing_s_form : (s_nothing = s_form) = False := eq_false (by decide)
@[simp] theorem ne_s_nothing_s_over : (s_nothing = s_over) = False := eq_false (by decide)
@[simp] theorem ne_s_nothing_s_wrong : (s_nothing = s_wrong) = False := eq_false (by decide)
@[simp] theorem ne_s_nothing_s_ok : (s_nothing = s_ok) = False := eq_false (by decide)
@[simp] theorem ne_s_nothing_s_on : (s_nothing = s_on) = False := eq_false (by decide)
@[simp] theorem ne_s_nothing_s_winner : (s_nothing = s_winner) = False := eq_false (by decide)
@[simp] theorem ne_s_nothing_s_pairs : (s_nothing = s_pairs) = False := eq_false (by decide)
@[simp] theorem ne_s_nothing_s_twos : (s_nothing = s_twos) = False := eq_false (by decide)
@[simp] theorem ne_s_nothing_s_each : (s_nothing = s_each) = False := eq_false (by decide)
@[simp] theorem ne_s_nothing_s_keep : (s_nothing = s_keep) = False := eq_false (by decide)
@[simp] theorem ne_s_nothing_s_found : (s_nothing = s_found) = False := eq_false (by decide)
@[simp] theorem ne_s_stuck_s_series : (s_stuck = s_series) = False := eq_false (by decide)
@[simp] theorem ne_s_stuck_s_tied : (s_stuck = s_tied) = False := eq_false (by decide)
@[simp] theorem ne_s_stuck_s_race : (s_stuck = s_race) = False := eq_false (by decide)
@[simp] theorem ne_s_stuck_s_point : (s_stuck = s_point) = False := eq_false (by decide)
@[simp] theorem ne_s_stuck_s_match : (s_stuck = s_match) = False := eq_false (by decide)
@[simp] theorem ne_s_stuck_s_no_name : (s_stuck = s_no_name) = False := eq_false (by decide)
@[simp] theorem ne_s_stuck_s_name : (s_stuck = s_name) = False := eq_false (by decide)
@[simp] theorem ne_s_stuck_s_text : (s_stuck = s_text) = False := eq_false (by decide)
@[simp] theorem ne_s_stuck_s_refused : (s_stuck = s_refused) = False := eq_false (by decide)
@[simp] theorem ne_s_stuck_s_share : (s_stuck = s_share) = False := eq_false (by decide)
@[simp] theorem ne_s_stuck_s_number : (s_stuck = s_number) = False := eq_false (by decide)
@[simp] theorem ne_s_stuck_s_nothing : (s_stuck = s_nothing) = False := eq_false (by decide)
@[simp] theorem ne_s_stuck_s_full : (s_stuck = s_full) = False := eq_false (by decide)
@[simp] theorem ne_s_stuck_s_gift : (s_stuck = s_gift) = False := eq_false (by decide)
@[simp] theorem ne_s_stuck_s_tree : (s_stuck = s_tree) = False := eq_false (by decide)
@[simp] theorem ne_s_stuck_s_not_over : (s_stuck = s_not_over) = False := eq_false (by decide)
@[simp] theorem ne_s_stuck_s_row : (s_stuck = s_row) = False := eq_false (by decide)
@[simp] theorem ne_s_stuck_s_side : (s_stuck = s_side) = False := eq_false (by decide)
@[simp] theorem ne_s_stuck_s_form : (s_stuck = s_form) = False := eq_false (by decide)
@[simp] theorem ne_s_stuck_s_over : (s_stuck = s_over) = False := eq_false (by decide)
@[simp] theorem ne_s_stuck_s_wrong : (s_stuck = s_wrong) = False := eq_false (by decide)
@[simp] theorem ne_s_stuck_s_ok : (s_stuck = s_ok) = False := eq_false (by decide)
@[simp] theorem ne_s_stuck_s_on : (s_stuck = s_on) = False := eq_false (by decide)
@[simp] theorem ne_s_stuck_s_winner : (s_stuck = s_winner) = False := eq_false (by decide)
@[simp] theorem ne_s_stuck_s_pairs : (s_stuck = s_pairs) = False := eq_false (by decide)
@[simp] theorem ne_s_stuck_s_twos : (s_stuck = s_twos) = False := eq_false (by decide)
@[simp] theorem ne_s_stuck_s_each : (s_stuck = s_each) = False := eq_false (by decide)
@[simp] theorem ne_s_stuck_s_keep : (s_stuck = s_keep) = False := eq_false (by decide)
@[simp] theorem ne_s_stuck_s_found : (s_stuck = s_found) = False := eq_false (by decide)
@[simp] theorem ne_s_full_s_series : (s_full = s_series) = False := eq_false (by decide)
@[simp] theorem ne_s_full_s_tied : (s_full = s_tied) = False := eq_false (by decide)
@[simp] theorem ne_s_full_s_race : (s_full = s_race) = False := eq_false (by decide)
@[simp] theorem ne_s_full_s_point : (s_full = s_point) = False := eq_false (by decide)
@[simp] theorem ne_s_full_s_match : (s_full = s_match) = False := eq_false (by decide)
@[simp] theorem ne_s_full_s_no_name : (s_full = s_no_name) = False := eq_false (by decide)
@[simp] theorem ne_s_full_s_name : (s_full = s_name) = False := eq_false (by decide)
@[simp] theorem ne_s_full_s_text : (s_full = s_text) = False := eq_false (by decide)
@[simp] theorem ne_s_full_s_refused : (s_full = s_refused) = False := eq_false (by decide)
@[simp] theorem ne_s_full_s_share : (s_full = s_share) = False := eq_false (by decide)
@[simp] theorem ne_s_full_s_number : (s_full = s_number) = False := eq_false (by decide)
@[simp] theorem ne_s_full_s_nothing : (s_full = s_nothing) = False := eq_false (by decide)
@[simp] theorem ne_s_full_s_stuck : (s_full = s_stuck) = False := eq_false (by decide)
@[simp] theorem ne_s_full_s_gift : (s_full = s_gift) = False := eq_false (by decide)
@[simp] theorem ne_s_full_s_tree : (s_full = s_tree) = False := eq_false (by decide)
@[simp] theorem ne_s_full_s_not_over : (s_full = s_not_over) = False := eq_false (by decide)
@[simp] theorem ne_s_full_s_row : (s_full = s_row) = False := eq_false (by decide)
@[simp] theorem ne_s_full_s_side : (s_full = s_side) = False := eq_false (by decide)
@[simp] theorem ne_s_full_s_form : (s_full = s_form) = False := eq_false (by decide)
@[simp] theorem ne_s_full_s_over : (s_full = s_over) = False := eq_false (by decide)
@[simp] theorem ne_s_full_s_wrong : (s_full = s_wrong) = False := eq_false (by decide)
@[simp] theorem ne_s_full_s_ok : (s_full = s_ok) = False := eq_false (by decide)
@[simp] theorem ne_s_full_s_on : (s_full = s_on) = False := eq_false (by decide)
@[simp] theorem ne_s_full_s_winner : (s_full = s_winner) = False := eq_false (by decide)
@[simp] theorem ne_s_full_s_pairs : (s_full = s_pairs) = False := eq_false (by decide)
@[simp] theorem ne_s_full_s_twos : (s_full = s_twos) = False := eq_false (by decide)
@[simp] theorem ne_s_full_s_each : (s_full = s_each) = False := eq_false (by decide)
@[simp] theorem ne_s_full_s_keep : (s_full = s_keep) = False := eq_false (by decide)
@[simp] theorem ne_s_full_s_found : (s_full = s_found) = False := eq_false (by decide)
@[simp] theorem ne_s_gift_s_series : (s_gift = s_series) = False := eq_false (by decide)
@[simp] theorem ne_s_gift_s_tied : (s_gift = s_tied) = False := eq_false (by decide)
@[simp] theorem ne_s_gift_s_race : (s_gift = s_race) = False := eq_false (by decide)
@[simp] theorem ne_s_gift_s_point : (s_gift = s_point) = False := eq_false (by decide)
@[simp] theorem ne_s_gift_s_match : (s_gift = s_match) = False := eq_false (by decide)
@[simp] theorem ne_s_gift_s_no_name : (s_gift = s_no_name) = False := eq_false (by decide)
@[simp] theorem ne_s_gift_s_name : (s_gift = s_name) = False := eq_false (by decide)
@[simp] theorem ne_s_gift_s_text : (s_gift = s_text) = False := eq_false (by decide)
@[simp] theorem ne_s_gift_s_refused : (s_gift = s_refused) = False := eq_false (by decide)
@[simp] theorem ne_s_gift_s_share : (s_gift = s_share) = False := eq_false (by decide)
@[simp] theorem ne_s_gift_s_number : (s_gift = s_number) = False := eq_false (by decide)
@[simp] theorem ne_s_gift_s_nothing : (s_gift = s_nothing) = False := eq_false (by decide)
@[simp] theorem ne_s_gift_s_stuck : (s_gift = s_stuck) = False := eq_false (by decide)
@[simp] theorem ne_s_gift_s_full : (s_gift = s_full) = False := eq_false (by decide)
@[simp] theorem ne_s_gift_s_tree : (s_gift = s_tree) = False := eq_false (by decide)
@[simp] theorem ne_s_gift_s_not_over : (s_gift = s_not_over) = False := eq_false (by decide)
@[simp] theorem ne_s_gift_s_row : (s_gift = s_row) = False := eq_false (by decide)
@[simp] theorem ne_s_gift_s_side : (s_gift = s_side) = False := eq_false (by decide)
@[simp] theorem ne_s_gift_s_form : (s_gift = s_form) = False := eq_false (by decide)
@[simp] theorem ne_s_gift_s_over : (s_gift = s_over) = False := eq_false (by decide)
@[simp] theorem ne_s_gift_s_wrong : (s_gift = s_wrong) = False := eq_false (by decide)
@[simp] theorem ne_s_gift_s_ok : (s_gift = s_ok) = False := eq_false (by decide)
@[simp] theorem ne_s_gift_s_on : (s_gift = s_on) = False := eq_false (by decide)
@[simp] theorem ne_s_gift_s_winner : (s_gift = s_winner) = False := eq_false (by decide)
@[simp] theorem ne_s_gift_s_pairs : (s_gift = s_pairs) = False := eq_false (by decide)
@[simp] theorem ne_s_gift_s_twos : (s_gift = s_twos) = False := eq_false (by decide)
@[simp] theorem ne_s_gift_s_each : (s_gift = s_each) = False := eq_false (by decide)
@[simp] theorem ne_s_gift_s_keep : (s_gift = s_keep) = False := eq_false (by decide)
@[simp] theorem ne_s_gift_s_found : (s_gift = s_found) = False := eq_false (by decide)
@[simp] theorem ne_s_tree_s_series : (s_tree = s_series) = False := eq_false (by decide)
@[simp] theorem ne_s_tree_s_tied : (s_tree = s_tied) = False := eq_false (by decide)
@[simp] theorem ne_s_tree_s_race : (s_tree = s_race) = False := eq_false (by decide)
@[simp] theorem ne_s_tree_s_point : (s_tree = s_point) = False := eq_false (by decide)
@[simp] theorem ne_s_tree_s_match : (s_tree = s_match) = False := eq_false (by decide)
@[simp] theorem ne_s_tree_s_no_name : (s_tree = s_no_name) = False := eq_false (by decide)
@[simp] theorem ne_s_tree_s_name : (s_tree = s_name) = False := eq_false (by decide)
@[simp] theorem ne_s_tree_s_text : (s_tree = s_text) = False := eq_false (by decide)
@[simp] theorem ne_s_tree_s_refused : (s_tree = s_refused) = False := eq_false (by decide)
@[simp] theorem ne_s_tree_s_share : (s_tree = s_share) = False := eq_false (by decide)
@[simp] theorem ne_s_tree_s_number : (s_tree = s_number) = False := eq_false (by decide)
@[simp] theorem ne_s_tree_s_nothing : (s_tree = s_nothing) = False := eq_false (by decide)
@[simp] theorem ne_s_tree_s_stuck : (s_tree = s_stuck) = False := eq_false (by decide)
@[simp] theorem ne_s_tree_s_full : (s_tree = s_full) = False := eq_false (by decide)
@[simp] theorem ne_s_tree_s_gift : (s_tree = s_gift) = False := eq_false (by decide)
@[simp] theorem ne_s_tree_s_not_over : (s_tree = s_not_over) = False := eq_false (by decide)
@[simp] theorem ne_s_tree_s_row : (s_tree = s_row) = False := eq_false (by decide)
@[simp] theorem ne_s_tree_s_side : (s_tree = s_side) = False := eq_false (by decide)
@[simp] theorem ne_s_tree_s_form : (s_tree = s_form) = False := eq_false (by decide)
@[simp] theorem ne_s_tree_s_over : (s_tree = s_over) = False := eq_false (by decide)
@[simp] theorem ne_s_tree_s_wrong : (s_tree = s_wrong) = False := eq_false (by decide)
@[simp] theorem ne_s_tree_s_ok : (s_tree = s_ok) = False := eq_false (by decide)
@[simp] theorem ne_s_tree_s_on : (s_tree = s_on) = False := eq_false (by decide)
@[simp] theorem ne_s_tree_s_winner : (s_tree = s_winner) = False := eq_false (by decide)
@[simp] theorem ne_s_tree_s_pairs : (s_tree = s_pairs) = False := eq_false (by decide)
@[simp] theorem ne_s_tree_s_twos : (s_tree = s_twos) = False := eq_false (by decide)
@[simp] theorem ne_s_tree_s_each : (s_tree = s_each) = False := eq_false (by decide)
@[simp] theorem ne_s_tree_s_keep : (s_tree = s_keep) = False := eq_false (by decide)
@[simp] theorem ne_s_tree_s_found : (s_tree = s_found) = False := eq_false (by decide)
@[simp] theorem ne_s_not_over_s_series : (s_not_over = s_series) = False := eq_false (by decide)
@[simp] theorem ne_s_not_over_s_tied : (s_not_over = s_tied) = False := eq_false (by decide)
@[simp] theorem ne_s_not_over_s_race : (s_not_over = s_race) = False := eq_false (by decide)
@[simp] theorem ne_s_not_over_s_point : (s_not_over = s_point) = False := eq_false (by decide)
@[simp] theorem ne_s_not_over_s_match : (s_not_over = s_match) = False := eq_false (by decide)
@[simp] theorem ne_s_not_over_s_no_name : (s_not_over = s_no_name) = False := eq_false (by decide)
@[simp] theorem ne_s_not_over_s_name : (s_not_over = s_name) = False := eq_false (by decide)
@[simp] theorem ne_s_not_over_s_text : (s_not_over = s_text) = False := eq_false (by decide)
@[simp] theorem ne_s_not_over_s_refused : (s_not_over = s_refused) = False := eq_false (by decide)
@[simp] theorem ne_s_not_over_s_share : (s_not_over = s_share) = False := eq_false (by decide)
@[simp] theorem ne_s_not_over_s_number : (s_not_over = s_number) = False := eq_false (by decide)
@[simp] theorem ne_s_not_over_s_nothing : (s_not_over = s_nothing) = False := eq_false (by decide)
@[simp] theorem ne_s_not_over_s_stuck : (s_not_over = s_stuck) = False := eq_false (by decide)
@[simp] theorem ne_s_not_over_s_full : (s_not_over = s_full) = False := eq_false (by decide)
@[simp] theorem ne_s_not_over_s_gift : (s_not_over = s_gift) = False := eq_false (by decide)
@[simp] theorem ne_s_not_over_s_tree : (s_not_over = s_tree) = False := eq_false (by decide)
@[simp] theorem ne_s_not_over_s_row : (s_not_over = s_row) = False := eq_false (by decide)
@[simp] theorem ne_s_not_over_s_side : (s_not_over = s_side) = False := eq_false (by decide)
@[simp] theorem ne_s_not_over_s_form : (s_not_over = s_form) = False := eq_false (by decide)
@[simp] theorem ne_s_not_over_s_over : (s_not_over = s_over) = False := eq_false (by decide)
@[simp] theorem ne_s_not_over_s_wrong : (s_not_over = s_wrong) = False := eq_false (by decide)
@[simp] theorem ne_s_not_over_s_ok : (s_not_over = s_ok) = False := eq_false (by decide)
@[simp] theorem ne_s_not_over_s_on : (s_not_over = s_on) = False := eq_false (by decide)
@[simp] theorem ne_s_not_over_s_winner : (s_not_over = s_winner) = False := eq_false (by decide)
@[simp] theorem ne_s_not_over_s_pairs : (s_not_over = s_pairs) = False := eq_false (by decide)
@[simp] theorem ne_s_not_over_s_twos : (s_not_over = s_twos) = False := eq_false (by decide)
@[simp] theorem ne_s_not_over_s_each : (s_not_over = s_each) = False := eq_false (by decide)
@[simp] theorem ne_s_not_over_s_keep : (s_not_over = s_keep) = False := eq_false (by decide)
@[simp] theorem ne_s_not_over_s_found : (s_not_over = s_found) = False := eq_false (by decide)
@[simp] theorem ne_s_row_s_series : (s_row = s_series) = False := eq_false (by decide)
@[simp] theorem ne_s_row_s_tied : (s_row = s_tied) = False := eq_false (by decide)
@[simp] theorem ne_s_row_s_race : (s_row = s_race) = False := eq_false (by decide)
@[simp] theorem ne_s_row_s_point : (s_row = s_point) = False := eq_false (by decide)
@[simp] theorem ne_s_row_s_match : (s_row = s_match) = False := eq_false (by decide)
@[simp] theorem ne_s_row_s_no_name : (s_row = s_no_name) = False := eq_false (by decide)
@[simp] theorem ne_s_row_s_name : (s_row = s_name) = False := eq_false (by decide)
@[simp] theorem ne_s_row_s_text : (s_row = s_text) = False := eq_false (by decide)
@[simp] theorem ne_s_row_s_refused : (s_row = s_refused) = False := eq_false (by decide)
@[simp] theorem ne_s_row_s_share : (s_row = s_share) = False := eq_false (by decide)
@[simp] theorem ne_s_row_s_number : (s_row = s_number) = False := eq_false (by decide)
@[simp] theorem ne_s_row_s_nothing : (s_row = s_nothing) = False := eq_false (by decide)
@[simp] theorem ne_s_row_s_stuck : (s_row = s_stuck) = False := eq_false (by decide)
@[simp] theorem ne_s_row_s_full : (s_row = s_full) = False := eq_false (by decide)
@[simp] theorem ne_s_row_s_gift : (s_row = s_gift) = False := eq_false (by decide)
@[simp] theorem ne_s_row_s_tree : (s_row = s_tree) = False := eq_false (by decide)
@[simp] theorem ne_s_row_s_not_over : (s_row = s_not_over) = False := eq_false (by decide)
@[simp] theorem ne_s_row_s_side : (s_row = s_side) = False := eq_false (by decide)
@[simp] theorem ne_s_row_s_form : (s_row = s_form) = False := eq_false (by decide)
@[simp] theorem ne_s_row_s_over : (s_row = s_over) = False := eq_false (by decide)
@[simp] theorem ne_s_row_s_wrong : (s_row = s_wrong) = False := eq_false (by decide)
@[simp] theorem ne_s_row_s_ok : (s_row = s_ok) = False := eq_false (by decide)
@[simp] theorem ne_s_row_s_on : (s_row = s_on) = False := eq_false (by decide)
@[simp] theorem ne_s_row_s_winner : (s_row = s_winner) = False := eq_false (by decide)
@[simp] theorem ne_s_row_s_pairs : (s_row = s_pairs) = False := eq_false (by decide)
@[simp] theorem ne_s_row_s_twos : (s_row = s_twos) = False := eq_false (by decide)
@[simp] theorem ne_s_row_s_each : (s_row = s_each) = False := eq_false (by decide)
@[simp] theorem ne_s_row_s_keep : (s_row = s_keep) = False := eq_false (by decide)
@[simp] theorem ne_s_row_s_found : (s_row = s_found) = False := eq_false (by decide)
@[simp] theorem ne_s_side_s_series : (s_side = s_series) = False := eq_false (by decide)
@[simp] theorem ne_s_side_s_tied : (s_side = s_tied) = False := eq_false (by decide)
@[simp] theorem ne_s_side_s_race : (s_side = s_race) = False := eq_false (by decide)
@[simp] theorem ne_s_side_s_point : (s_side = s_point) = False := eq_false (by decide)
@[simp] theorem ne_s_side_s_match : (s_side = s_match) = False := eq_false (by decide)
@[simp] theorem ne_s_side_s_no_name : (s_side = s_no_name) = False := eq_false (by decide)
@[simp] theorem ne_s_side_s_name : (s_side = s_name) = False := eq_false (by decide)
@[simp] theorem ne_s_side_s_text : (s_side = s_text) = False := eq_false (by decide)
@[simp] theorem ne_s_side_s_refused : (s_side = s_refused) = False := eq_false (by decide)
@[simp] theorem ne_s_side_s_share : (s_side = s_share) = False := eq_false (by decide)
@[simp] theorem ne_s_side_s_number : (s_side = s_number) = False := eq_false (by decide)
@[simp] theorem ne_s_side_s_nothing : (s_side = s_nothing) = False := eq_false (by decide)
@[simp] theorem ne_s_side_s_stuck : (s_side = s_stuck) = False := eq_false (by decide)
@[simp] theorem ne_s_side_s_full : (s_side = s_full) = False := eq_false (by decide)
@[simp] theorem ne_s_side_s_gift : (s_side = s_gift) = False := eq_false (by decide)
@[simp] theorem ne_s_side_s_tree : (s_side = s_tree) = False := eq_false (by decide)
@[simp] theorem ne_s_side_s_not_over : (s_side = s_not_over) = False := eq_false (by decide)
@[simp] theorem ne_s_side_s_row : (s_side = s_row) = False := eq_false (by decide)
@[simp] theorem ne_s_side_s_form : (s_side = s_form) = False := eq_false (by decide)
@[simp] theorem ne_s_side_s_over : (s_side = s_over) = False := eq_false (by decide)
@[simp] theorem ne_s_side_s_wrong : (s_side = s_wrong) = False := eq_false (by decide)
@[simp] theorem ne_s_side_s_ok : (s_side = s_ok) = False := eq_false (by decide)
@[simp] theorem ne_s_side_s_on : (s_side = s_on) = False := eq_false (by decide)
@[simp] theorem ne_s_side_s_winner : (s_side = s_winner) = False := eq_false (by decide)
@[simp] theorem ne_s_side_s_pairs : (s_side = s_pairs) = False := eq_false (by decide)
@[simp] theorem ne_s_side_s_twos : (s_side = s_twos) = False := eq_false (by decide)
@[simp] theorem ne_s_side_s_each : (s_side = s_each) = False := eq_false (by decide)
@[simp] theorem ne_s_side_s_keep : (s_side = s_keep) = False := eq_false (by decide)
@[simp] theorem ne_s_side_s_found : (s_side = s_found) = False := eq_false (by decide)
@[simp] theorem ne_s_form_s_series : (s_form = s_series) = False := eq_false (by decide)
@[simp] theorem ne_s_form_s_tied : (s_form = s_tied) = False := eq_false (by decide)
@[simp] theorem ne_s_form_s_race : (s_form = s_race) = False := eq_false (by decide)
@[simp] theorem ne_s_form_s_point : (s_form = s_point) = False := eq_false (by decide)
@[simp] theorem ne_s_form_s_match : (s_form = s_match) = False := eq_false (by decide)
@[simp] theorem ne_s_form_s_no_name : (s_form = s_no_name) = False := eq_false (by decide)
@[simp] theorem ne_s_form_s_name : (s_form = s_name) = False := eq_false (by decide)
@[simp] theorem ne_s_form_s_text : (s_form = s_text) = False := eq_false (by decide)
@[simp] theorem ne_s_form_s_refused : (s_form = s_refused) = False := eq_false (by decide)
@[simp] theorem ne_s_form_s_share : (s_form = s_share) = False := eq_false (by decide)
@[simp] theorem ne_s_form_s_number : (s_form = s_number) = False := eq_false (by decide)
@[simp] theorem ne_s_form_s_nothing : (s_form = s_nothing) = False := eq_false (by decide)
@[simp] theorem ne_s_form_s_stuck : (s_form = s_stuck) = False := eq_false (by decide)
@[simp] theorem ne_s_form_s_full : (s_form = s_full) = False := eq_false (by decide)
@[simp] theorem ne_s_form_s_gift : (s_form = s_gift) = False := eq_false (by decide)
@[simp] theorem ne_s_form_s_tree : (s_form = s_tree) = False := eq_false (by decide)
@[simp] theorem ne_s_form_s_not_over : (s_form = s_not_over) = False := eq_false (by decide)
@[simp] theorem ne_s_form_s_row : (s_form = s_row) = False := eq_false (by decide)
@[simp] theorem ne_s_form_s_side : (s_form = s_side) = False := eq_false (by decide)
@[simp] theorem ne_s_form_s_over : (s_form = s_over) = False := eq_false (by decide)
@[simp] theorem ne_s_form_s_wrong : (s_form = s_wrong) = False := eq_false (by decide)
@[simp] theorem ne_s_form_s_ok : (s_form = s_ok) = False := eq_false (by decide)
@[simp] theorem ne_s_form_s_on : (s_form = s_on) = False := eq_false (by decide)
@[simp] theorem ne_s_form_s_winner : (s_form = s_winner) = False := eq_false (by decide)
@[simp] theorem ne_s_form_s_pairs : (s_form = s_pairs) = False := eq_false (by decide)
@[simp] theorem ne_s_form_s_twos : (s_form = s_twos) = False := eq_false (by decide)
@[simp] theorem ne_s_form_s_each : (s_form = s_each) = False := eq_false (by decide)
@[simp] theorem ne_s_form_s_keep : (s_form = s_keep) = False := eq_false (by decide)
@[simp] theorem ne_s_form_s_found : (s_form = s_found) = False := eq_false (by decide)
@[simp] theorem ne_s_over_s_series : (s_over = s_series) = False := eq_false (by decide)
@[simp] theorem ne_s_over_s_tied : (s_over = s_tied) = False := eq_false (by decide)
@[simp] theorem ne_s_over_s_race : (s_over = s_race) = False := eq_false (by decide)
@[simp] theorem ne_s_over_s_point : (s_over = s_point) = False := eq_false (by decide)
@[simp] theorem ne_s_over_s_match : (s_over = s_match) = False := eq_false (by decide)
@[simp] theorem ne_s_over_s_no_name : (s_over = s_no_name) = False := eq_false (by decide)
@[simp] theorem ne_s_over_s_name : (s_over = s_name) = False := eq_false (by decide)
@[simp] theorem ne_s_over_s_text : (s_over = s_text) = False := eq_false (by decide)
@[simp] theorem ne_s_over_s_refused : (s_over = s_refused) = False := eq_false (by decide)
@[simp] theorem ne_s_over_s_share : (s_over = s_share) = False := eq_false (by decide)
@[simp] theorem ne_s_over_s_number : (s_over = s_number) = False := eq_false (by decide)
@[simp] theorem ne_s_over_s_nothing : (s_over = s_nothing) = False := eq_false (by decide)
@[simp] theorem ne_s_over_s_stuck : (s_over = s_stuck) = False := eq_false (by decide)
@[simp] theorem ne_s_over_s_full : (s_over = s_full) = False := eq_false (by decide)
@[simp] theorem ne_s_over_s_gift : (s_over = s_gift) = False := eq_false (by decide)
@[simp] theorem ne_s_over_s_tree : (s_over = s_tree) = False := eq_false (by decide)
@[simp] theorem ne_s_over_s_not_over : (s_over = s_not_over) = False := eq_false (by decide)
@[simp] theorem ne_s_over_s_row : (s_over = s_row) = False := eq_false (by decide)
@[simp] theorem ne_s_over_s_side : (s_over = s_side) = False := eq_false (by decide)
@[simp] theorem ne_s_over_s_form : (s_over = s_form) = False := eq_false (by decide)
@[simp] theorem ne_s_over_s_wrong : (s_over = s_wrong) = False := eq_false (by decide)
@[simp] theorem ne_s_over_s_ok : (s_over = s_ok) = False := eq_false (by decide)
@[simp] theorem ne_s_over_s_on : (s_over = s_on) = False := eq_false (by decide)
@[simp] theorem ne_s_over_s_winner : (s_over = s_winner) = False := eq_false (by decide)
@[simp] theorem ne_s_over_s_pairs : (s_over = s_pairs) = False := eq_false (by decide)
@[simp] theorem ne_s_over_s_twos : (s_over = s_twos) = False := eq_false (by decide)
@[simp] theorem ne_s_over_s_each : (s_over = s_each) = False := eq_false (by decide)
@[simp] theorem ne_s_over_s_keep : (s_over = s_keep) = False := eq_false (by decide)
@[simp] theorem ne_s_over_s_found : (s_over = s_found) = False := eq_false (by decide)
@[simp] theorem ne_s_wrong_s_series : (s_wrong = s_series) = False := eq_false (by decide)
@[simp] theorem ne_s_wrong_s_tied : (s_wrong = s_tied) = False := eq_false (by decide)
@[simp] theorem ne_s_wrong_s_race : (s_wrong = s_race) = False := eq_false (by decide)
@[simp] theorem ne_s_wrong_s_point : (s_wrong = s_point) = False := eq_false (by decide)
@[simp] theorem ne_s_wrong_s_match : (s_wrong = s_match) = False := eq_false (by decide)
@[simp] theorem ne_s_wrong_s_no_name : (s_wrong = s_no_name) = False := eq_false (by decide)
@[simp] theorem ne_s_wrong_s_name : (s_wrong = s_name) = False := eq_false (by decide)
@[simp] theorem ne_s_wrong_s_text : (s_wrong = s_text) = False := eq_false (by decide)
@[simp] theorem ne_s_wrong_s_refused : (s_wrong = s_refused) = False := eq_false (by decide)
@[simp] theorem ne_s_wrong_s_share : (s_wrong = s_share) = False := eq_false (by decide)
@[simp] theorem ne_s_wrong_s_number : (s_wrong = s_number) = False := eq_false (by decide)
@[simp] theorem ne_s_wrong_s_nothing : (s_wrong = s_nothing) = False := eq_false (by decide)
@[simp] theorem ne_s_wrong_s_stuck : (s_wrong = s_stuck) = False := eq_false (by decide)
@[simp] theorem ne_s_wrong_s_full : (s_wrong = s_full) = False := eq_false (by decide)
@[simp] theorem ne_s_wrong_s_gift : (s_wrong = s_gift) = False := eq_false (by decide)
@[simp] theorem ne_s_wrong_s_tree : (s_wrong = s_tree) = False := eq_false (by decide)
@[simp] theorem ne_s_wrong_s_not_over : (s_wrong = s_not_over) = False := eq_false (by decide)
@[simp] theorem ne_s_wrong_s_row : (s_wrong = s_row) = False := eq_false (by decide)
@[simp] theorem ne_s_wrong_s_side : (s_wrong = s_side) = False := eq_false (by decide)
@[simp] theorem ne_s_wrong_s_form : (s_wrong = s_form) = False := eq_false (by decide)
@[simp] theorem ne_s_wrong_s_over : (s_wrong = s_over) = False := eq_false (by decide)
@[simp] theorem ne_s_wrong_s_ok : (s_wrong = s_ok) = False := eq_false (by decide)
@[simp] theorem ne_s_wrong_s_on : (s_wrong = s_on) = False := eq_false (by decide)
@[simp] theorem ne_s_wrong_s_winner : (s_wrong = s_winner) = False := eq_false (by decide)
@[simp] theorem ne_s_wrong_s_pairs : (s_wrong = s_pairs) = False := eq_false (by decide)
@[simp] theorem ne_s_wrong_s_twos : (s_wrong = s_twos) = False := eq_false (by decide)
@[simp] theorem ne_s_wrong_s_each : (s_wrong = s_each) = False := eq_false (by decide)
@[simp] theorem ne_s_wrong_s_keep : (s_wrong = s_keep) = False := eq_false (by decide)
@[simp] theorem ne_s_wrong_s_found : (s_wrong = s_found) = False := eq_false (by decide)
@[simp] theorem ne_s_ok_s_series : (s_ok = s_series) = False := eq_false (by decide)
@[simp] theorem ne_s_ok_s_tied : (s_ok = s_tied) = False := eq_false (by decide)
@[simp] theorem ne_s_ok_s_race : (s_ok = s_race) = False := eq_false (by decide)
@[simp] theorem ne_s_ok_s_point : (s_ok = s_point) = False := eq_false (by decide)
@[simp] theorem ne_s_ok_s_match : (s_ok = s_match) = False := eq_false (by decide)
@[simp] theorem ne_s_ok_s_no_name : (s_ok = s_no_name) = False := eq_false (by decide)
@[simp] theorem ne_s_ok_s_name : (s_ok = s_name) = False := eq_false (by decide)
@[simp] theorem ne_s_ok_s_text : (s_ok = s_text) = False := eq_false (by decide)
@[simp] theorem ne_s_ok_s_refused : (s_ok = s_refused) = False := eq_false (by decide)
@[simp] theorem ne_s_ok_s_share : (s_ok = s_share) = False := eq_false (by decide)
@[simp] theorem ne_s_ok_s_number : (s_ok = s_number) = False := eq_false (by decide)
@[simp] theorem ne_s_ok_s_nothing : (s_ok = s_nothing) = False := eq_false (by decide)
@[simp] theorem ne_s_ok_s_stuck : (s_ok = s_stuck) = False := eq_false (by decide)
@[simp] theorem ne_s_ok_s_full : (s_ok = s_full) = False := eq_false (by decide)
@[simp] theorem ne_s_ok_s_gift : (s_ok = s_gift) = False := eq_false (by decide)
@[simp] theorem ne_s_ok_s_tree : (s_ok = s_tree) = False := eq_false (by decide)
@[simp] theorem ne_s_ok_s_not_over : (s_ok = s_not_over) = False := eq_false (by decide)
@[simp] theorem ne_s_ok_s_row : (s_ok = s_row) = False := eq_false (by decide)
@[simp] theorem ne_s_ok_s_side : (s_ok = s_side) = False := eq_false (by decide)
@[simp] theorem ne_s_ok_s_form : (s_ok = s_form) = False := eq_false (by decide)
@[simp] theorem ne_s_ok_s_over : (s_ok = s_over) = False := eq_false (by decide)
@[simp] theorem ne_s_ok_s_wrong : (s_ok = s_wrong) = False := eq_false (by decide)
@[simp] theorem ne_s_ok_s_on : (s_ok = s_on) = False := eq_false (by decide)
@[simp] theorem ne_s_ok_s_winner : (s_ok = s_winner) = False := eq_false (by decide)
@[simp] theorem ne_s_ok_s_pairs : (s_ok = s_pairs) = False := eq_false (by decide)
@[simp] theorem ne_s_ok_s_twos : (s_ok = s_twos) = False := eq_false (by decide)
@[simp] theorem ne_s_ok_s_each : (s_ok = s_each) = False := eq_false (by decide)
@[simp] theorem ne_s_ok_s_keep : (s_ok = s_keep) = False := eq_false (by decide)
@[simp] theorem ne_s_ok_s_found : (s_ok = s_found) = False := eq_false (by decide)
@[simp] theorem ne_s_on_s_series : (s_on = s_series) = False := eq_false (by decide)
@[simp] theorem ne_s_on_s_tied : (s_on = s_tied) = False := eq_false (by decide)
@[simp] theorem ne_s_on_s_race : (s_on = s_race) = False := eq_false (by decide)
@[simp] theorem ne_s_on_s_point : (s_on = s_point) = False := eq_false (by decide)
@[simp] theorem ne_s_on_s_match : (s_on = s_match) = False := eq_false (by decide)
@[simp] theorem ne_s_on_s_no_name : (s_on = s_no_name) = False := eq_false (by decide)
@[simp] theorem ne_s_on_s_name : (s_on = s_name) = False := eq_false (by decide)
@[simp] theorem ne_s_on_s_text : (s_on = s_text) = False := eq_false (by decide)
@[simp] theorem ne_s_on_s_refused : (s_on = s_refused) = False := eq_false (by decide)
@[simp] theorem ne_s_on_s_share : (s_on = s_share) = False := eq_false (by decide)
@[simp] theorem ne_s_on_s_number : (s_on = s_number) = False := eq_false (by decide)
@[simp] theorem ne_s_on_s_nothing : (s_on = s_nothing) = False := eq_false (by decide)
@[simp] theorem ne_s_on_s_stuck : (s_on = s_stuck) = False := eq_false (by decide)
@[simp] theorem ne_s_on_s_full : (s_on = s_full) = False := eq_false (by decide)
@[simp] theorem ne_s_on_s_gift : (s_on = s_gift) = False := eq_false (by decide)
@[simp] theorem ne_s_on_s_tree : (s_on = s_tree) = False := eq_false (by decide)
@[simp] theorem ne_s_on_s_not_over : (s_on = s_not_over) = False := eq_false (by decide)
@[simp] theorem ne_s_on_s_row : (s_on = s_row) = False := eq_false (by decide)
@[simp] theorem ne_s_on_s_side : (s_on = s_side) = False := eq_false (by decide)
@[simp] theorem ne_s_on_s_form : (s_on = s_form) = False := eq_false (by decide)
@[simp] theorem ne_s_on_s_over : (s_on = s_over) = False := eq_false (by decide)
@[simp] theorem ne_s_on_s_wrong : (s_on = s_wrong) = False := eq_false (by decide)
@[simp] theorem ne_s_on_s_ok : (s_on = s_ok) = False := eq_false (by decide)
@[simp] theorem ne_s_on_s_winner : (s_on = s_winner) = False := eq_false (by decide)
@[simp] theorem ne_s_on_s_pairs : (s_on = s_pairs) = False := eq_false (by decide)
@[simp] theorem ne_s_on_s_twos : (s_on = s_twos) = False := eq_false (by decide)
@[simp] theorem ne_s_on_s_each : (s_on = s_each) = False := eq_false (by decide)
@[simp] theorem ne_s_on_s_keep : (s_on = s_keep) = False := eq_false (by decide)
@[simp] theorem ne_s_on_s_found : (s_on = s_found) = False := eq_false (by decide)
@[simp] theorem ne_s_winner_s_series : (s_winner = s_series) = False := eq_false (by decide)
@[simp] theorem ne_s_winner_s_tied : (s_winner = s_tied) = False := eq_false (by decide)
@[simp] theorem ne_s_winner_s_race : (s_winner = s_race) = False := eq_false (by decide)
@[simp] theorem ne_s_winner_s_point : (s_winner = s_point) = False := eq_false (by decide)
@[simp] theorem ne_s_winner_s_match : (s_winner = s_match) = False := eq_false (by decide)
@[simp] theorem ne_s_winner_s_no_name : (s_winner = s_no_name) = False := eq_false (by decide)
@[simp] theorem ne_s_winner_s_name : (s_winner = s_name) = False := eq_false (by decide)
@[simp] theorem ne_s_winner_s_text : (s_winner = s_text) = False := eq_false (by decide)
@[simp] theorem ne_s_winner_s_refused : (s_winner = s_refused) = False := eq_false (by decide)
@[simp] theorem ne_s_winner_s_share : (s_winner = s_share) = False := eq_false (by decide)
@[simp] theorem ne_s_winner_s_number : (s_winner = s_number) = False := eq_false (by decide)
@[simp] theorem ne_s_winner_s_nothing : (s_winner = s_nothing) = False := eq_false (by decide)
@[simp] theorem ne_s_winner_s_stuck : (s_winner = s_stuck) = False := eq_false (by decide)
@[simp] theorem ne_s_winner_s_full : (s_winner = s_full) = False := eq_false (by decide)
@[simp] theorem ne_s_winner_s_gift : (s_winner = s_gift) = False := eq_false (by decide)
@[simp] theorem ne_s_winner_s_tree : (s_winner = s_tree) = False := eq_false (by decide)
@[simp] theorem ne_s_winner_s_not_over : (s_winner = s_not_over) = False := eq_false (by decide)
@[simp] theorem ne_s_winner_s_row : (s_winner = s_row) = False := eq_false (by decide)
@[simp] theorem ne_s_winner_s_side : (s_winner = s_side) = False := eq_false (by decide)
@[simp] theorem ne_s_winner_s_form : (s_winner = s_form) = False := eq_false (by decide)
@[simp] theorem ne_s_winner_s_over : (s_winner = s_over) = False := eq_false (by decide)
@[simp] theorem ne_s_winner_s_wrong : (s_winner = s_wrong) = False := eq_false (by decide)
@[simp] theorem ne_s_winner_s_ok : (s_winner = s_ok) = False := eq_false (by decide)
@[simp] theorem ne_s_winner_s_on : (s_winner = s_on) = False := eq_false (by decide)
@[simp] theorem ne_s_winner_s_pairs : (s_winner = s_pairs) = False := eq_false (by decide)
@[simp] theorem ne_s_winner_s_twos : (s_winner = s_twos) = False := eq_false (by decide)
@[simp] theorem ne_s_winner_s_each : (s_winner = s_each) = False := eq_false (by decide)
@[simp] theorem ne_s_winner_s_keep : (s_winner = s_keep) = False := eq_false (by decide)
@[simp] theorem ne_s_winner_s_found : (s_winner = s_found) = False := eq_false (by decide)
@[simp] theorem ne_s_pairs_s_series : (s_pairs = s_series) = False := eq_false (by decide)
@[simp] theorem ne_s_pairs_s_tied : (s_pairs = s_tied) = False := eq_false (by decide)
@[simp] theorem ne_s_pairs_s_race : (s_pairs = s_race) = False := eq_false (by decide)
@[simp] theorem ne_s_pairs_s_point : (s_pairs = s_point) = False := eq_false (by decide)
@[simp] theorem ne_s_pairs_s_match : (s_pairs = s_match) = False := eq_false (by decide)
@[simp] theorem ne_s_pairs_s_no_name : (s_pairs = s_no_name) = False := eq_false (by decide)
@[simp] theorem ne_s_pairs_s_name : (s_pairs = s_name) = False := eq_false (by decide)
@[simp] theorem ne_s_pairs_s_text : (s_pairs = s_text) = False := eq_false (by decide)
@[simp] theorem ne_s_pairs_s_refused : (s_pairs = s_refused) = False := eq_false (by decide)
@[simp] theorem ne_s_pairs_s_share : (s_pairs = s_share) = False := eq_false (by decide)
@[simp] theorem ne_s_pairs_s_number : (s_pairs = s_number) = False := eq_false (by decide)
@[simp] theorem ne_s_pairs_s_nothing : (s_pairs = s_nothing) = False := eq_false (by decide)
@[simp] theorem ne_s_pairs_s_stuck : (s_pairs = s_stuck) = False := eq_false (by decide)
@[simp] theorem ne_s_pairs_s_full : (s_pairs = s_full) = False := eq_false (by decide)
@[simp] theorem ne_s_pairs_s_gift : (s_pairs = s_gift) = False := eq_false (by decide)
@[simp] theorem ne_s_pairs_s_tree : (s_pairs = s_tree) = False := eq_false (by decide)
@[simp] theorem ne_s_pairs_s_not_over : (s_pairs = s_not_over) = False := eq_false (by decide)
@[simp] theorem ne_s_pairs_s_row : (s_pairs = s_row) = False := eq_false (by decide)
@[simp] theorem ne_s_pairs_s_side : (s_pairs = s_side) = False := eq_false (by decide)
@[simp] theorem ne_s_pairs_s_form : (s_pairs = s_form) = False := eq_false (by decide)
@[simp] theorem ne_s_pairs_s_over : (s_pairs = s_over) = False := eq_false (by decide)
@[simp] theorem ne_s_pairs_s_wrong : (s_pairs = s_wrong) = False := eq_false (by decide)
@[simp] theorem ne_s_pairs_s_ok : (s_pairs = s_ok) = False := eq_false (by decide)
@[simp] theorem ne_s_pairs_s_on : (s_pairs = s_on) = False := eq_false (by decide)
@[simp] theorem ne_s_pairs_s_winner : (s_pairs = s_winner) = False := eq_false (by decide)
@[simp] theorem ne_s_pairs_s_twos : (s_pairs = s_twos) = False := eq_false (by decide)
@[simp] theorem ne_s_pairs_s_each : (s_pairs = s_each) = False := eq_false (by decide)
@[simp] theorem ne_s_pairs_s_keep : (s_pairs = s_keep) = False := eq_false (by decide)
@[simp] theorem ne_s_pairs_s_found : (s_pairs = s_found) = False := eq_false (by decide)
@[simp] theorem ne_s_twos_s_series : (s_twos = s_series) = False := eq_false (by decide)
@[simp] theorem ne_s_twos_s_tied : (s_twos = s_tied) = False := eq_false (by decide)
@[simp] theorem ne_s_twos_s_race : (s_twos = s_race) = False := eq_false (by decide)
@[simp] theorem ne_s_twos_s_point : (s_twos = s_point) = False := eq_false (by decide)
@[simp] theorem ne_s_twos_s_match : (s_twos = s_match) = False := eq_false (by decide)
@[simp] theorem ne_s_twos_s_no_name : (s_twos = s_no_name) = False := eq_false (by decide)
@[simp] theorem ne_s_twos_s_name : (s_twos = s_name) = False := eq_false (by decide)
@[simp] theorem ne_s_twos_s_text : (s_twos = s_text) = False := eq_false (by decide)
@[simp] theorem ne_s_twos_s_refused : (s_twos = s_refused) = False := eq_false (by decide)
@[simp] theorem ne_s_twos_s_share : (s_twos = s_share) = False := eq_false (by decide)
@[simp] theorem ne_s_twos_s_number : (s_twos = s_number) = False := eq_false (by decide)
@[simp] theorem ne_s_twos_s_nothing : (s_twos = s_nothing) = False := eq_false (by decide)
@[simp] theorem ne_s_twos_s_stuck : (s_twos = s_stuck) = False := eq_false (by decide)
@[simp] theorem ne_s_twos_s_full : (s_twos = s_full) = False := eq_false (by decide)
@[simp] theorem ne_s_twos_s_gift : (s_twos = s_gift) = False := eq_false (by decide)
@[simp] theorem ne_s_twos_s_tree : (s_twos = s_tree) = False := eq_false (by decide)
@[simp] theorem ne_s_twos_s_not_over : (s_twos = s_not_over) = False := eq_false (by decide)
@[simp] theorem ne_s_twos_s_row : (s_twos = s_row) = False := eq_false (by decide)
@[simp] theorem ne_s_twos_s_side : (s_twos = s_side) = False := eq_false (by decide)
@[simp] theorem ne_s_twos_s_form : (s_twos = s_form) = False := eq_false (by decide)
@[simp] theorem ne_s_twos_s_over : (s_twos = s_over) = False := eq_false (by decide)
@[simp] theorem ne_s_twos_s_wrong : (s_twos = s_wrong) = False := eq_false (by decide)
@[simp] theorem ne_s_twos_s_ok : (s_twos = s_ok) = False := eq_false (by decide)
@[simp] theorem ne_s_twos_s_on : (s_twos = s_on) = False := eq_false (by decide)
@[simp] theorem ne_s_twos_s_winner : (s_twos = s_winner) = False := eq_false (by decide)
@[simp] theorem ne_s_twos_s_pairs : (s_twos = s_pairs) = False := eq_false (by decide)
@[simp] theorem ne_s_twos_s_each : (s_twos = s_each) = False := eq_false (by decide)
@[simp] theorem ne_s_twos_s_keep : (s_twos = s_keep) = False := eq_false (by decide)
@[simp] theorem ne_s_twos_s_found : (s_twos = s_found) = False := eq_false (by decide)
@[simp] theorem ne_s_each_s_series : (s_each = s_series) = False := eq_false (by decide)
@[simp] theorem ne_s_each_s_tied : (s_each = s_tied) = False := eq_false (by decide)
@[simp] theorem ne_s_each_s_race : (s_each = s_race) = False := eq_false (by decide)
@[simp] theorem ne_s_each_s_point : (s_each = s_point) = False := eq_false (by decide)
@[simp] theorem ne_s_each_s_match : (s_each = s_match) = False := eq_false (by decide)
@[simp] theorem ne_s_each_s_no_name : (s_each = s_no_name) = False := eq_false (by decide)
@[simp] theorem ne_s_each_s_name : (s_each = s_name) = False := eq_false (by decide)
@[simp] theorem ne_s_each_s_text : (s_each = s_text) = False := eq_false (by decide)
@[simp] theorem ne_s_each_s_refused : (s_each = s_refused) = False := eq_false (by decide)
@[simp] theorem ne_s_each_s_share : (s_each = s_share) = False := eq_false (by decide)
@[simp] theorem ne_s_each_s_number : (s_each = s_number) = False := eq_false (by decide)
@[simp] theorem ne_s_each_s_nothing : (s_each = s_nothing) = False := eq_false (by decide)
@[simp] theorem ne_s_each_s_stuck : (s_each = s_stuck) = False := eq_false (by decide)
@[simp] theorem ne_s_each_s_full : (s_each = s_full) = False := eq_false (by decide)
@[simp] theorem ne_s_each_s_gift : (s_each = s_gift) = False := eq_false (by decide)
@[simp] theorem ne_s_each_s_tree : (s_each = s_tree) = False := eq_false (by decide)
@[simp] theorem ne_s_each_s_not_over : (s_each = s_not_over) = False := eq_false (by decide)
@[simp] theorem ne_s_each_s_row : (s_each = s_row) = False := eq_false (by decide)
@[simp] theorem ne_s_each_s_side : (s_each = s_side) = False := eq_false (by decide)
@[simp] theorem ne_s_each_s_form : (s_each = s_form) = False := eq_false (by decide)
@[simp] theorem ne_s_each_s_over : (s_each = s_over) = False := eq_false (by decide)
@[simp] theorem ne_s_each_s_wrong : (s_each = s_wrong) = False := eq_false (by decide)
@[simp] theorem ne_s_each_s_ok : (s_each = s_ok) = False := eq_false (by decide)
@[simp] theorem ne_s_each_s_on : (s_each = s_on) = False := eq_false (by decide)
@[simp] theorem ne_s_each_s_winner : (s_each = s_winner) = False := eq_false (by decide)
@[simp] theorem ne_s_each_s_pairs : (s_each = s_pairs) = False := eq_false (by decide)
@[simp] theorem ne_s_each_s_twos : (s_each = s_twos) = False := eq_false (by decide)
@[simp] theorem ne_s_each_s_keep : (s_each = s_keep) = False := eq_false (by decide)
@[simp] theorem ne_s_each_s_found : (s_each = s_found) = False := eq_false (by decide)
@[simp] theorem ne_s_keep_s_series : (s_keep = s_series) = False := eq_false (by decide)
@[simp] theorem ne_s_keep_s_tied : (s_keep = s_tied) = False := eq_false (by decide)
@[simp] theorem ne_s_keep_s_race : (s_keep = s_race) = False := eq_false (by decide)
@[simp] theorem ne_s_keep_s_point : (s_keep = s_point) = False := eq_false (by decide)
@[simp] theorem ne_s_keep_s_match : (s_keep = s_match) = False := eq_false (by decide)
@[simp] theorem ne_s_keep_s_no_name : (s_keep = s_no_name) = False := eq_false (by decide)
@[simp] theorem ne_s_keep_s_name : (s_keep = s_name) = False := eq_false (by decide)
@[simp] theorem ne_s_keep_s_text : (s_keep = s_text) = False := eq_false (by decide)
@[simp] theorem ne_s_keep_s_refused : (s_keep = s_refused) = False := eq_false (by decide)
@[simp] theorem ne_s_keep_s_share : (s_keep = s_share) = False := eq_false (by decide)
@[simp] theorem ne_s_keep_s_number : (s_keep = s_number) = False := eq_false (by decide)
@[simp] theorem ne_s_keep_s_nothing : (s_keep = s_nothing) = False := eq_false (by decide)
@[simp] theorem ne_s_keep_s_stuck : (s_keep = s_stuck) = False := eq_false (by decide)
@[simp] theorem ne_s_keep_s_full : (s_keep = s_full) = False := eq_false (by decide)
@[simp] theorem ne_s_keep_s_gift : (s_keep = s_gift) = False := eq_false (by decide)
@[simp] theorem ne_s_keep_s_tree : (s_keep = s_tree) = False := eq_false (by decide)
@[simp] theorem ne_s_keep_s_not_over : (s_keep = s_not_over) = False := eq_false (by decide)
@[simp] theorem ne_s_keep_s_row : (s_keep = s_row) = False := eq_false (by decide)
@[simp] theorem ne_s_keep_s_side : (s_keep = s_side) = False := eq_false (by decide)
@[simp] theorem ne_s_keep_s_form : (s_keep = s_form) = False := eq_false (by decide)
@[simp] theorem ne_s_keep_s_over : (s_keep = s_over) = False := eq_false (by decide)
@[simp] theorem ne_s_keep_s_wrong : (s_keep = s_wrong) = False := eq_false (by decide)
@[simp] theorem ne_s_keep_s_ok : (s_keep = s_ok) = False := eq_false (by decide)
@[simp] theorem ne_s_keep_s_on : (s_keep = s_on) = False := eq_false (by decide)
@[simp] theorem ne_s_keep_s_winner : (s_keep = s_winner) = False := eq_false (by decide)
@[simp] theorem ne_s_keep_s_pairs : (s_keep = s_pairs) = False := eq_false (by decide)
@[simp] theorem ne_s_keep_s_twos : (s_keep = s_twos) = False := eq_false (by decide)
@[simp] theorem ne_s_keep_s_each : (s_keep = s_each) = False := eq_false (by decide)
@[simp] theorem ne_s_keep_s_found : (s_keep = s_found) = False := eq_false (by decide)
@[simp] theorem ne_s_found_s_series : (s_found = s_series) = False := eq_false (by decide)
@[simp] theorem ne_s_found_s_tied : (s_found = s_tied) = False := eq_false (by decide)
@[simp] theorem ne_s_found_s_race : (s_found = s_race) = False := eq_false (by decide)
@[simp] theorem ne_s_found_s_point : (s_found = s_point) = False := eq_false (by decide)
@[simp] theorem ne_s_found_s_match : (s_found = s_match) = False := eq_false (by decide)
@[simp] theorem ne_s_found_s_no_name : (s_found = s_no_name) = False := eq_false (by decide)
@[simp] theorem ne_s_found_s_name : (s_found = s_name) = False := eq_false (by decide)
@[simp] theorem ne_s_found_s_text : (s_found = s_text) = False := eq_false (by decide)
@[simp] theorem ne_s_found_s_refused : (s_found = s_refused) = False := eq_false (by decide)
@[simp] theorem ne_s_found_s_share : (s_found = s_share) = False := eq_false (by decide)
@[simp] theorem ne_s_found_s_number : (s_found = s_number) = False := eq_false (by decide)
@[simp] theorem ne_s_found_s_nothing : (s_found = s_nothing) = False := eq_false (by decide)
@[simp] theorem ne_s_found_s_stuck : (s_found = s_stuck) = False := eq_false (by decide)
@[simp] theorem ne_s_found_s_full : (s_found = s_full) = False := eq_false (by decide)
@[simp] theorem ne_s_found_s_gift : (s_found = s_gift) = False := eq_false (by decide)
@[simp] theorem ne_s_found_s_tree : (s_found = s_tree) = False := eq_false (by decide)
@[simp] theorem ne_s_found_s_not_over : (s_found = s_not_over) = False := eq_false (by decide)
@[simp] theorem ne_s_found_s_row : (s_found = s_row) = False := eq_false (by decide)
@[simp] theorem ne_s_found_s_side : (s_found = s_side) = False := eq_false (by decide)
@[simp] theorem ne_s_found_s_form : (s_found = s_form) = False := eq_false (by decide)
@[simp] theorem ne_s_found_s_over : (s_found = s_over) = False := eq_false (by decide)
@[simp] theorem ne_s_found_s_wrong : (s_found = s_wrong) = False := eq_false (by decide)
@[simp] theorem ne_s_found_s_ok : (s_found = s_ok) = False := eq_false (by decide)
@[simp] theorem ne_s_found_s_on : (s_found = s_on) = False := eq_false (by decide)
@[simp] theorem ne_s_found_s_winner : (s_found = s_winner) = False := eq_false (by decide)
@[simp] theorem ne_s_found_s_pairs : (s_found = s_pairs) = False := eq_false (by decide)
@[simp] theorem ne_s_found_s_twos : (s_found = s_twos) = False := eq_false (by decide)
@[simp] theorem ne_s_found_s_each : (s_found = s_each) = False := eq_false (by decide)
@[simp] theorem ne_s_found_s_keep : (s_found = s_keep) = False := eq_false (by decide)

end Ev
section
namespace Lw
open PySem PySem.Spec PyProof.Rows L2 Ev
/-! CUT -/
section
variable {K : PySem.W.Frag} {h : Heap} {mg : Str → Option Value}
theorem d_is_number (X : K.In h) (G : h.Ns mainGlobals mg) (c : SaysX fa fn ex K) : ∃ a fd, DefOk K mg f_is_number c_is_number a fd :=
  defOk_of (ps := ["thing", "least", "most"]) X G (c.d.fact 0 (f := .glo f_is_number) rfl) (c.d.def_ 0 (d := dfn 26 f_is_number) rfl) rfl (by decide) ⟨rfl, rfl, rfl, by decide +kernel, rfl, by decide +kernel, by decide +kernel⟩ (by decide +kernel) fun _ _ _ _ _ _ us hl => match us, hl with | [_, _, _], _ => rfl
theorem d_is_turn (X : K.In h) (G : h.Ns mainGlobals mg) (c : SaysX fa fn ex K) : ∃ a fd, DefOk K mg f_is_turn c_is_turn a fd :=
  defOk_of (ps := ["thing"]) X G (c.d.fact 1 (f := .glo f_is_turn) rfl) (c.d.def_ 1 (d := dfn 27 f_is_turn) rfl) rfl (by decide) ⟨rfl, rfl, rfl, by decide +kernel, rfl, by decide +kernel, by decide +kernel⟩ (by decide +kernel) fun _ _ _ _ _ _ us hl => match us, hl with | [_], _ => rfl
theorem d_is_race (X : K.In h) (G : h.Ns mainGlobals mg) (c : SaysX fa fn ex K) : ∃ a fd, DefOk K mg f_is_race c_is_race a fd :=
  defOk_of (ps := ["thing", "room"]) X G (c.d.fact 2 (f := .glo f_is_race) rfl) (c.d.def_ 2 (d := dfn 28 f_is_race) rfl) rfl (by decide) ⟨rfl, rfl, rfl, by decide +kernel, rfl, by decide +kernel, by decide +kernel⟩ (by decide +kernel) fun _ _ _ _ _ _ us hl => match us, hl with | [_, _], _ => rfl
theorem d_is_tied (X : K.In h) (G : h.Ns mainGlobals mg) (c : SaysX fa fn ex K) : ∃ a fd, DefOk K mg f_is_tied c_is_tied a fd :=
  defOk_of (ps := ["thing", "room"]) X G (c.d.fact 3 (f := .glo f_is_tied) rfl) (c.d.def_ 3 (d := dfn 29 f_is_tied) rfl) rfl (by decide) ⟨rfl, rfl, rfl, by decide +kernel, rfl, by decide +kernel, by decide +kernel⟩ (by decide +kernel) fun _ _ _ _ _ _ us hl => match us, hl with | [_, _], _ => rfl
theorem d_is_series (X : K.In h) (G : h.Ns mainGlobals mg) (c : SaysX fa fn ex K) : ∃ a fd, DefOk K mg f_is_series c_is_series a fd :=
  defOk_of (ps := ["thing", "room"]) X G (c.d.fact 4 (f := .glo f_is_series) rfl) (c.d.def_ 4 (d := dfn 30 f_is_series) rfl) rfl (by decide) ⟨rfl, rfl, rfl, by decide +kernel, rfl, by decide +kernel, by decide +kernel⟩ (by decide +kernel) fun _ _ _ _ _ _ us hl => match us, hl with | [_, _], _ => rfl
theorem d_is_shape (X : K.In h) (G : h.Ns mainGlobals mg) (c : SaysX fa fn ex K) : ∃ a fd, DefOk K mg f_is_shape c_is_shape a fd :=
  defOk_of (ps := ["thing", "room"]) X G (c.d.fact 5 (f := .glo f_is_shape) rfl) (c.d.def_ 5 (d := dfn 31 f_is_shape) rfl) rfl (by decide) ⟨rfl, rfl, rfl, by decide +kernel, rfl, by decide +kernel, by decide +kernel⟩ (by decide +kernel) fun _ _ _ _ _ _ us hl => match us, hl with | [_, _], _ => rfl
theorem d_parts (X : K.In h) (G : h.Ns mainGlobals mg) (c : SaysX fa fn ex K) : ∃ a fd, DefOk K mg f_parts c_parts a fd :=
  defOk_of (ps := ["form"]) X G (c.d.fact 6 (f := .glo f_parts) rfl) (c.d.def_ 6 (d := dfn 32 f_parts) rfl) rfl (by decide) ⟨rfl, rfl, rfl, by decide +kernel, rfl, by decide +kernel, by decide +kernel⟩ (by decide +kernel) fun _ _ _ _ _ _ us hl => match us, hl with | [_], _ => rfl
theorem d_size_of (X : K.In h) (G : h.Ns mainGlobals mg) (c : SaysX fa fn ex K) : ∃ a fd, DefOk K mg f_size_of c_size_of a fd :=
  defOk_of (ps := ["form"]) X G (c.d.fact 7 (f := .glo f_size_of) rfl) (c.d.def_ 7 (d := dfn 33 f_size_of) rfl) rfl (by decide) ⟨rfl, rfl, rfl, by decide +kernel, rfl, by decide +kernel, by decide +kernel⟩ (by decide +kernel) fun _ _ _ _ _ _ us hl => match us, hl with | [_], _ => rfl
theorem d_deep_of (X : K.In h) (G : h.Ns mainGlobals mg) (c : SaysX fa fn ex K) : ∃ a fd, DefOk K mg f_deep_of c_deep_of a fd :=
  defOk_of (ps := ["form"]) X G (c.d.fact 8 (f := .glo f_deep_of) rfl) (c.d.def_ 8 (d := dfn 34 f_deep_of) rfl) rfl (by decide) ⟨rfl, rfl, rfl, by decide +kernel, rfl, by decide +kernel, by decide +kernel⟩ (by decide +kernel) fun _ _ _ _ _ _ us hl => match us, hl with | [_], _ => rfl
theorem d_is_form (X : K.In h) (G : h.Ns mainGlobals mg) (c : SaysX fa fn ex K) : ∃ a fd, DefOk K mg f_is_form c_is_form a fd :=
  defOk_of (ps := ["thing"]) X G (c.d.fact 9 (f := .glo f_is_form) rfl) (c.d.def_ 9 (d := dfn 35 f_is_form) rfl) rfl (by decide) ⟨rfl, rfl, rfl, by decide +kernel, rfl, by decide +kernel, by decide +kernel⟩ (by decide +kernel) fun _ _ _ _ _ _ us hl => match us, hl with | [_], _ => rfl
theorem d_look_form (X : K.In h) (G : h.Ns mainGlobals mg) (c : SaysX fa fn ex K) : ∃ a fd, DefOk K mg f_look_form c_look_form a fd :=
  defOk_of (ps := ["form"]) X G (c.d.fact 10 (f := .glo f_look_form) rfl) (c.d.def_ 10 (d := dfn 36 f_look_form) rfl) rfl (by decide) ⟨rfl, rfl, rfl, by decide +kernel, rfl, by decide +kernel, by decide +kernel⟩ (by decide +kernel) fun _ _ _ _ _ _ us hl => match us, hl with | [_], _ => rfl
theorem d_deep (X : K.In h) (G : h.Ns mainGlobals mg) (c : SaysX fa fn ex K) : ∃ a fd, DefOk K mg f_deep c_deep a fd :=
  defOk_of (ps := ["form"]) X G (c.d.fact 11 (f := .glo f_deep) rfl) (c.d.def_ 11 (d := dfn 37 f_deep) rfl) rfl (by decide) ⟨rfl, rfl, rfl, by decide +kernel, rfl, by decide +kernel, by decide +kernel⟩ (by decide +kernel) fun _ _ _ _ _ _ us hl => match us, hl with | [_], _ => rfl
theorem d_size (X : K.In h) (G : h.Ns mainGlobals mg) (c : SaysX fa fn ex K) : ∃ a fd, DefOk K mg f_size c_size a fd :=
  defOk_of (ps := ["form"]) X G (c.d.fact 12 (f := .glo f_size) rfl) (c.d.def_ 12 (d := dfn 38 f_size) rfl) rfl (by decide) ⟨rfl, rfl, rfl, by decide +kernel, rfl, by decide +kernel, by decide +kernel⟩ (by decide +kernel) fun _ _ _ _ _ _ us hl => match us, hl with | [_], _ => rfl
theorem d__law_cell (X : K.In h) (G : h.Ns mainGlobals mg) (c : SaysX fa fn ex K) : ∃ a fd, DefOk K mg f__law_cell c__law_cell a fd :=
  defOk_of (ps := ["script", "k"]) X G (c.d.fact 13 (f := .glo f__law_cell) rfl) (c.d.def_ 13 (d := dfn 40 f__law_cell) rfl) rfl (by decide) ⟨rfl, rfl, rfl, by decide +kernel, rfl, by decide +kernel, by decide +kernel⟩ (by decide +kernel) fun _ _ _ _ _ _ us hl => match us, hl with | [_, _], _ => rfl
theorem d__law_mix (X : K.In h) (G : h.Ns mainGlobals mg) (c : SaysX fa fn ex K) : ∃ a fd, DefOk K mg f__law_mix c__law_mix a fd :=
  defOk_of (ps := ["script", "k"]) X G (c.d.fact 14 (f := .glo f__law_mix) rfl) (c.d.def_ 14 (d := dfn 41 f__law_mix) rfl) rfl (by decide) ⟨rfl, rfl, rfl, by decide +kernel, rfl, by decide +kernel, by decide +kernel⟩ (by decide +kernel) fun _ _ _ _ _ _ us hl => match us, hl with | [_, _], _ => rfl
theorem d__law_draw (X : K.In h) (G : h.Ns mainGlobals mg) (c : SaysX fa fn ex K) : ∃ a fd, DefOk K mg f__law_draw c__law_draw a fd :=
  defOk_of (ps := ["script", "town", "many"]) X G (c.d.fact 15 (f := .glo f__law_draw) rfl) (c.d.def_ 15 (d := dfn 42 f__law_draw) rfl) rfl (by decide) ⟨rfl, rfl, rfl, by decide +kernel, rfl, by decide +kernel, by decide +kernel⟩ (by decide +kernel) fun _ _ _ _ _ _ us hl => match us, hl with | [_, _, _], _ => rfl
theorem d__law_pick (X : K.In h) (G : h.Ns mainGlobals mg) (c : SaysX fa fn ex K) : ∃ a fd, DefOk K mg f__law_pick c__law_pick a fd :=
  defOk_of (ps := ["script", "town", "some"]) X G (c.d.fact 16 (f := .glo f__law_pick) rfl) (c.d.def_ 16 (d := dfn 43 f__law_pick) rfl) rfl (by decide) ⟨rfl, rfl, rfl, by decide +kernel, rfl, by decide +kernel, by decide +kernel⟩ (by decide +kernel) fun _ _ _ _ _ _ us hl => match us, hl with | [_, _, _], _ => rfl
theorem d__law_refusal (X : K.In h) (G : h.Ns mainGlobals mg) (c : SaysX fa fn ex K) : ∃ a fd, DefOk K mg f__law_refusal c__law_refusal a fd :=
  defOk_of (ps := ["caught"]) X G (c.d.fact 17 (f := .glo f__law_refusal) rfl) (c.d.def_ 17 (d := dfn 44 f__law_refusal) rfl) rfl (by decide) ⟨rfl, rfl, rfl, by decide +kernel, rfl, by decide +kernel, by decide +kernel⟩ (by decide +kernel) fun _ _ _ _ _ _ us hl => match us, hl with | [_], _ => rfl
theorem d__law_turn (X : K.In h) (G : h.Ns mainGlobals mg) (c : SaysX fa fn ex K) : ∃ a fd, DefOk K mg f__law_turn c__law_turn a fd :=
  defOk_of (ps := ["script", "town"]) X G (c.d.fact 18 (f := .glo f__law_turn) rfl) (c.d.def_ 18 (d := dfn 45 f__law_turn) rfl) rfl (by decide) ⟨rfl, rfl, rfl, by decide +kernel, rfl, by decide +kernel, by decide +kernel⟩ (by decide +kernel) fun _ _ _ _ _ _ us hl => match us, hl with | [_, _], _ => rfl
theorem d__law_form (X : K.In h) (G : h.Ns mainGlobals mg) (c : SaysX fa fn ex K) : ∃ a fd, DefOk K mg f__law_form c__law_form a fd :=
  defOk_of (ps := ["script", "town", "layers", "top"]) X G (c.d.fact 19 (f := .glo f__law_form) rfl) (c.d.def_ 19 (d := dfn 46 f__law_form) rfl) rfl (by decide) ⟨rfl, rfl, rfl, by decide +kernel, rfl, by decide +kernel, by decide +kernel⟩ (by decide +kernel) fun _ _ _ _ _ _ us hl => match us, hl with | [_, _, _, _], _ => rfl
theorem d__law_size (X : K.In h) (G : h.Ns mainGlobals mg) (c : SaysX fa fn ex K) : ∃ a fd, DefOk K mg f__law_size c__law_size a fd :=
  defOk_of (ps := ["form"]) X G (c.d.fact 20 (f := .glo f__law_size) rfl) (c.d.def_ 20 (d := dfn 47 f__law_size) rfl) rfl (by decide) ⟨rfl, rfl, rfl, by decide +kernel, rfl, by decide +kernel, by decide +kernel⟩ (by decide +kernel) fun _ _ _ _ _ _ us hl => match us, hl with | [_], _ => rfl
theorem d__law_sized (X : K.In h) (G : h.Ns mainGlobals mg) (c : SaysX fa fn ex K) : ∃ a fd, DefOk K mg f__law_sized c__law_sized a fd :=
  defOk_of (ps := ["script", "town", "layers", "top"]) X G (c.d.fact 21 (f := .glo f__law_sized) rfl) (c.d.def_ 21 (d := dfn 48 f__law_sized) rfl) rfl (by decide) ⟨rfl, rfl, rfl, by decide +kernel, rfl, by decide +kernel, by decide +kernel⟩ (by decide +kernel) fun _ _ _ _ _ _ us hl => match us, hl with | [_, _, _, _], _ => rfl
theorem d__law_one (X : K.In h) (G : h.Ns mainGlobals mg) (c : SaysX fa fn ex K) : ∃ a fd, DefOk K mg f__law_one c__law_one a fd :=
  defOk_of (ps := ["kind", "form"]) X G (c.d.fact 22 (f := .glo f__law_one) rfl) (c.d.def_ 22 (d := dfn 49 f__law_one) rfl) rfl (by decide) ⟨rfl, rfl, rfl, by decide +kernel, rfl, by decide +kernel, by decide +kernel⟩ (by decide +kernel) fun _ _ _ _ _ _ us hl => match us, hl with | [_, _], _ => rfl
theorem d__law_told (X : K.In h) (G : h.Ns mainGlobals mg) (c : SaysX fa fn ex K) : ∃ a fd, DefOk K mg f__law_told c__law_told a fd :=
  defOk_of (ps := ["kind", "some"]) X G (c.d.fact 23 (f := .glo f__law_told) rfl) (c.d.def_ 23 (d := dfn 50 f__law_told) rfl) rfl (by decide) ⟨rfl, rfl, rfl, by decide +kernel, rfl, by decide +kernel, by decide +kernel⟩ (by decide +kernel) fun _ _ _ _ _ _ us hl => match us, hl with | [_, _], _ => rfl
theorem d__law_due (X : K.In h) (G : h.Ns mainGlobals mg) (c : SaysX fa fn ex K) : ∃ a fd, DefOk K mg f__law_due c__law_due a fd :=
  defOk_of (ps := ["layers", "many"]) X G (c.d.fact 24 (f := .glo f__law_due) rfl) (c.d.def_ 24 (d := dfn 51 f__law_due) rfl) rfl (by decide) ⟨rfl, rfl, rfl, by decide +kernel, rfl, by decide +kernel, by decide +kernel⟩ (by decide +kernel) fun _ _ _ _ _ _ us hl => match us, hl with | [_, _], _ => rfl
theorem d_law (X : K.In h) (G : h.Ns mainGlobals mg) (c : SaysX fa fn ex K) : ∃ a fd, DefOk K mg f_law c_law a fd :=
  defOk_of (ps := ["script"]) X G (c.d.fact 25 (f := .glo f_law) rfl) (c.d.def_ 25 (d := dfn 52 f_law) rfl) rfl (by decide) ⟨rfl, rfl, rfl, by decide +kernel, rfl, by decide +kernel, by decide +kernel⟩ (by decide +kernel) fun _ _ _ _ _ _ us hl => match us, hl with | [_], _ => rfl
theorem all_d (X : K.In h) (G : h.Ns mainGlobals mg) (c : SaysX fa fn ex K) : AllD K mg T := .cons (d_is_number X G c) (.cons (d_is_turn X G c) (.cons (d_is_race X G c) (.cons (d_is_tied X G c) (.cons (d_is_series X G c) (.cons (d_is_shape X G c) (.cons (d_parts X G c) (.cons (d_size_of X G c) (.cons (d_deep_of X G c) (.cons (d_is_form X G c) (.cons (d_look_form X G c) (.cons (d_deep X G c) (.cons (d_size X G c) (.cons (d__law_cell X G c) (.cons (d__law_mix X G c) (.cons (d__law_draw X G c) (.cons (d__law_pick X G c) (.cons (d__law_refusal X G c) (.cons (d__law_turn X G c) (.cons (d__law_form X G c) (.cons (d__law_size X G c) (.cons (d__law_sized X G c) (.cons (d__law_one X G c) (.cons (d__law_told X G c) (.cons (d__law_due X G c) (.cons (d_law X G c) (.nil))))))))))))))))))))))))))
theorem all_g (X : K.In h) (G : h.Ns mainGlobals mg) (c : SaysX fa fn ex K) : AllG K mg glT := by
  have z := c.x
  unfold ex at z
  simp only [Bool.and_eq_true] at z
  obtain ⟨⟨t0, t1⟩, _⟩ := z
  exact .cons (glob_tup X G (c.d.fact 26 (f := .glo s_TURNS) rfl) t0 (fun ρ H => .cons (.str _) (.cons (.str _) (.cons (.str _) (.cons (.str _) (.cons (.str _) (.cons (.str _) (.nil)))))))) (.cons (glob_int X G (c.d.fact 27 (f := .int s_MOST_DEEP 4) rfl)) (.cons (glob_int X G (c.d.fact 28 (f := .int s_MOST_SIZE 20) rfl)) (.cons (glob_int X G (c.d.fact 29 (f := .int s_MOST_GOAL 30) rfl)) (.cons (glob_int X G (c.d.fact 30 (f := .int s_MOST_LEAD 3) rfl)) (.cons (glob_tup X G (c.d.fact 31 (f := .glo s_SERIES) rfl) t1 (fun ρ H => .cons (.int _) (.cons (.int _) (.cons (.int _) (.cons (.int _) (.nil)))))) (.nil))))))
theorem all_f (X : K.In h) (G : h.Ns mainGlobals mg) (c : SaysX fa fn ex K) : ∀ x ∈ freeNames, mg x = none := by
  intro x hx
  simp only [freeNames, List.mem_cons, List.not_mem_nil, or_false] at hx
  rcases hx with rfl | rfl | rfl | rfl | rfl | rfl | rfl | rfl | rfl | rfl | rfl | rfl | rfl
  · exact He.free_ok X G (c.d.fact 32 (f := .free "len") rfl)
  · exact He.free_ok X G (c.d.fact 33 (f := .free "abs") rfl)
  · exact He.free_ok X G (c.d.fact 34 (f := .free "max") rfl)
  · exact He.free_ok X G (c.d.fact 35 (f := .free "min") rfl)
  · exact He.free_ok X G (c.d.fact 36 (f := .free "sum") rfl)
  · exact He.free_ok X G (c.d.fact 37 (f := .free "all") rfl)
  · exact He.free_ok X G (c.d.fact 38 (f := .free "int") rfl)
  · exact He.free_ok X G (c.d.fact 39 (f := .free "str") rfl)
  · exact He.free_ok X G (c.d.fact 40 (f := .free "list") rfl)
  · exact He.free_ok X G (c.d.fact 41 (f := .free "tuple") rfl)
  · exact He.free_ok X G (c.d.fact 42 (f := .free "isinstance") rfl)
  · exact He.free_ok X G (c.d.fact 43 (f := .free "bool") rfl)
  · exact He.free_ok X G (c.d.fact 44 (f := .free "range") rfl)
theorem exok (X : K.In h) (G : h.Ns mainGlobals mg) (c : SaysX fa fn ex K) : ExOk K mg := by
  have z := c.x
  unfold ex at z
  obtain ⟨fd, F⟩ := c.d.def_ 26 (d := dOver) rfl
  exact exAll_ok X G (Bool.and_eq_true_iff.mp z).2 (He.free_ok X G (c.d.fact 45 (f := .free "ValueError") rfl)) F
end
theorem h_name : (HandSHeadRun.topDef R.prog 52).name = f_law := by kernel_rfl
theorem h_dfl : (HandSHeadRun.topDef R.prog 52).params.defaults = [] := by kernel_rfl
theorem h_scope : FnScope c_law.names ["script"] (defScope (top 52)) := ⟨rfl, rfl, rfl, by decide +kernel, rfl, by decide +kernel, by decide +kernel⟩
theorem h_isS : isSs c_law.names (defScope (top 52)) c_law.body (defBody (top 52)) = true := by decide +kernel
theorem h_bind (kV doc pm : Value) (an : Option Addr) (cdv ct : Value) (us : List Value) (hl : us.length = 1) : bindArgs (PySem.W.fnOf f_law f_law (defArgs (top 52)) (defBody (top 52)) (defScope (top 52)) .none kV doc pm an cdv ct) ⟨us, []⟩ = pure ((["script"] : List Str).zip us) := match us, hl with | [_], _ => rfl
theorem h_D {K : PySem.W.Frag} {h : Heap} {mg : Str → Option Value} (KX : K.In h) (G : h.Ns mainGlobals mg) (c : SaysX fa fn ex K) {fd : FuncData} (F : FunD K f_law f_law (defArgs (top 52)) (defBody (top 52)) (defScope (top 52)) [] [] (He.ga K f_law) fd) : DefOk K mg f_law c_law (He.ga K f_law) fd := defOk_fd (ps := ["script"]) KX G (c.d.fact 25 (f := .glo f_law) rfl) F rfl (by decide) h_scope h_isS fun kV doc pm an cdv ct us hl => h_bind kV doc pm an cdv ct us hl
theorem h_F (lt : ∀ ns : List Int, ns.length ≤ 63 → ∃ s, callN T gl W0 60 f_law [.ref 0] [.ro (ns.map Val.int)] = .ok (.bool true) s) (w : World) (mg : Str → Option Value) (fa' : Addr) (h : Heap) (Y : hk.says w h) (G : h.Ns mainGlobals mg) (hmg : mg f_law = some (.ref fa')) :
    ∃ (K : PySem.W.Frag) (fd : FuncData) (sp : Sp), K.In h ∧ (∀ (s : Shared) (u : Value), BindsTo s fd ⟨[u], []⟩ [("script", u)]) ∧
      (∀ (H : Hp) (a : Addr) (ns : List Int), ns.length ≤ 63 → Only H → SqL K H a (ns.map V.int) → sp [.ref a] H (fun v _ => v = .bl true) fun _ _ _ => False) ∧
      ∀ base : Heap, K.In base → base.Ns mainGlobals mg → FnOk R.prog w K mg base (L2.CX0) 60 fa' fd ["script"] sp := by
  obtain ⟨K, KX, c⟩ := Y
  obtain ⟨fd, F⟩ := c.d.def_ 25 (d := dfn 52 f_law) rfl
  have D := h_D KX G c F
  have ea : He.ga K f_law = fa' := by
    have e := D.mgf.symm.trans hmg
    injection e with e
    injection e
  rw [ea] at D
  refine ⟨K, fd, (fun vs H Q _ => spOf K ⟨callN T gl W0 60, gl, W0, hasN T 60⟩ f_law vs H Q fun _ _ _ => False), KX, fun s u => ?_, fun H b ns hl hO hS => law_sp hO hS (lt ns hl), fun base KB GB => ?_⟩
  · exact L2.FunD.bindsA (ps := ["script"]) F (fun kV doc pm an cdv ct us hl => h_bind kV doc pm an cdv ct us hl) s [u] rfl
  · exact fn_calm (fns_ok (fun f d e => (all_d KB GB c).at_ e) (fun x v e => (all_g KB GB c).at_ e) (all_f KB GB c) (fun _ => exok KB GB c) 60 f_law c_law fa' fd rfl D)
theorem h_w : R.toRowW.promised := by w_witness2
end Lw
open PySem PySem.W PySem.Calls PyProof.Rows
set_option maxRecDepth 100000 in
set_option maxHeartbeats 8000000 in
theorem Lw.final (lt : ∀ ns : List Int, ns.length ≤ 63 → ∃ s, Ev.callN Ev.T Ev.gl Ev.W0 60 Ev.f_law [.ref 0] [.ro (ns.map Ev.Val.int)] = .ok (.bool true) s) : PySem.Challenge.rw_setpoints_k03_whole_measures.Holds := by
  w_on; o_law
  exact HandSHeadRun.head_any (r := Lw.R) (q := view Lw.R.prog [52]) (H := Lw.hk) (ob := Lw.ob) (M := 6000) (loose := Lw.loose) (d := HandSHeadRun.topDef Lw.R.prog 52) (kwd := []) Lw.ob_eq
    Lw.h_e Lw.h_f Lw.run Lw.h_def Lw.h_p Lw.h_k (by rfl) Lw.h_k1 Lw.h_ok Lw.h_b Lw.h_w (L2.walk_ofE (l := PySem.Challenge.rw_setpoints_k03_whole_measures) (n := 63) (k := 60) (x := "script") (CX := L2.CX0) rfl (by decide) Lw.h_dfl ⟨rfl, by decide, by decide⟩ (fun w mg fa h Y G hmg0 => Lw.h_F lt w mg fa h Y G (Lw.h_name ▸ hmg0)) (fun _ _ _ _ z => z))

end
namespace Ev
open PySem
/-! ### forms -/
inductive Turn where | keep | each | twos | pairs | winner | on
  deriving DecidableEq
def Turn.s : Turn → Str
  | .keep => s_keep | .each => s_each | .twos => s_twos | .pairs => s_pairs | .winner => s_winner | .on => s_on
inductive Form where
  | point
  | race (f : Form) (goal lead : Int) (t : Turn)
  | tied (f : Form) (goal lead even : Int) (l : Form) (t : Turn)
  | series (fs : List Form) (t : Turn)
mutual
def Form.enc : Form → PV
  | .point => .tup [.str s_point]
  | .race f g l t => .tup [.str s_race, f.enc, .int g, .int l, .str t.s]
  | .tied f g l e la t => .tup [.str s_tied, f.enc, .int g, .int l, .int e, la.enc, .str t.s]
  | .series fs t => .tup [.str s_series, .tup (encL fs), .str t.s]
def encL : List Form → List PV
  | [] => []
  | f :: fs => f.enc :: encL fs
end
theorem encL_map : ∀ fs : List Form, encL fs = fs.map Form.enc
  | [] => rfl
  | f :: fs => by rw [List.map_cons, ← encL_map fs]; rfl
def Form.parts : Form → List Form
  | .point => []
  | .race f _ _ _ => [f]
  | .tied f _ _ _ l _ => [f, l]
  | .series fs _ => fs
mutual
def Form.deep : Form → Nat
  | .point => 1
  | .race f _ _ _ => 1 + f.deep
  | .tied f _ _ _ l _ => 1 + max f.deep l.deep
  | .series fs _ => 1 + deepL fs
def deepL : List Form → Nat
  | [] => 0
  | f :: fs => max f.deep (deepL fs)
end
mutual
def Form.size : Form → Nat
  | .point => 1
  | .race f _ _ _ => 1 + f.size
  | .tied f _ _ _ l _ => 1 + (f.size + l.size)
  | .series fs _ => 1 + sizeL fs
def sizeL : List Form → Nat
  | [] => 0
  | f :: fs => f.size + sizeL fs
end
mutual
/-- goals, leads, evens, numbers of forms as they may be -/
def Form.ok : Form → Prop
  | .point => True
  | .race f g l _ => f.ok ∧ (1 ≤ g ∧ g ≤ 30) ∧ (1 ≤ l ∧ l ≤ 3)
  | .tied f g l e la _ => f.ok ∧ (1 ≤ g ∧ g ≤ 30) ∧ (1 ≤ l ∧ l ≤ 3) ∧ (1 ≤ e ∧ e ≤ 30) ∧ la.ok ∧ (1 < l ∨ e < g)
  | .series fs _ => okL fs ∧ (fs.length = 1 ∨ fs.length = 3 ∨ fs.length = 5 ∨ fs.length = 7)
def okL : List Form → Prop
  | [] => True
  | f :: fs => f.ok ∧ okL fs
end
mutual
@[simp] theorem noO_enc : ∀ f : Form, f.enc.noO = true
  | .point => rfl
  | .race f g l t => by simp [Form.enc, noO_enc f]
  | .tied f g l e la t => by simp [Form.enc, noO_enc f, noO_enc la]
  | .series fs t => by simp [Form.enc, noO_encL fs]
@[simp] theorem noO_encL : ∀ fs : List Form, noOL (encL fs) = true
  | [] => rfl
  | f :: fs => by simp [encL, noO_enc f, noO_encL fs]
end
mutual
@[simp] theorem noF_enc : ∀ f : Form, f.enc.noF = true
  | .point => rfl
  | .race f g l t => by simp [Form.enc, noF_enc f]
  | .tied f g l e la t => by simp [Form.enc, noF_enc f, noF_enc la]
  | .series fs t => by simp [Form.enc, noF_encL fs]
@[simp] theorem noF_encL : ∀ fs : List Form, noFL (encL fs) = true
  | [] => rfl
  | f :: fs => by simp [encL, noF_enc f, noF_encL fs]
end
mutual
@[simp] theorem frz_enc : ∀ f : Form, f.enc.frz = f.enc
  | .point => rfl
  | .race f g l t => by simp [Form.enc, frz_enc f]
  | .tied f g l e la t => by simp [Form.enc, frz_enc f, frz_enc la]
  | .series fs t => by simp [Form.enc, frz_encL fs]
@[simp] theorem frz_encL : ∀ fs : List Form, frzL (encL fs) = encL fs
  | [] => rfl
  | f :: fs => by simp [encL, frz_enc f, frz_encL fs]
end
@[simp] theorem kid_enc (f : Form) : f.enc.kidsNoO = true := by
  have := noO_enc f
  cases f <;> simpa [Form.enc] using this
theorem deep_pos : ∀ f : Form, 1 ≤ f.deep
  | .point => by simp [Form.deep]
  | .race _ _ _ _ => by simp [Form.deep]
  | .tied _ _ _ _ _ _ => by simp [Form.deep]
  | .series _ _ => by simp [Form.deep]
theorem deepL_mem : ∀ {fs : List Form} {f : Form}, f ∈ fs → f.deep ≤ deepL fs
  | _ :: fs, f, h => by
    rcases List.mem_cons.mp h with e | h
    · subst e; simp [deepL]; omega
    · have := deepL_mem h; simp [deepL]; omega
theorem okL_mem : ∀ {fs : List Form} {f : Form}, okL fs → f ∈ fs → f.ok
  | g :: fs, f, o, h => by
    rcases List.mem_cons.mp h with e | h
    · subst e; exact o.1
    · exact okL_mem o.2 h
theorem sizeL_sum : ∀ fs : List Form, sizeL fs = (fs.map Form.size).sum
  | [] => rfl
  | f :: fs => by rw [List.map_cons, List.sum_cons, ← sizeL_sum fs]; rfl
theorem encL_length (fs : List Form) : (encL fs).length = fs.length := by rw [encL_map, List.length_map]
/-! forms as data -/
mutual
def Form.py : Form → PyData
  | .point => .tuple [.str s_point]
  | .race f g l t => .tuple [.str s_race, f.py, .int g, .int l, .str t.s]
  | .tied f g l e la t => .tuple [.str s_tied, f.py, .int g, .int l, .int e, la.py, .str t.s]
  | .series fs t => .tuple [.str s_series, .tuple (pyL fs), .str t.s]
def pyL : List Form → List PyData
  | [] => []
  | f :: fs => f.py :: pyL fs
end
mutual
theorem toD_enc : ∀ (f : Form) (k : Nat), 2 * f.deep ≤ k → pD k f.enc = some f.py
  | .point, k, h => by
    obtain ⟨m, rfl⟩ : ∃ m, k = m + 1 := ⟨k - 1, by simp [Form.deep] at h; omega⟩
    simp [Form.enc, pD, Form.py]
  | .race f g l t, k, h => by
    obtain ⟨m, rfl⟩ : ∃ m, k = m + 1 := ⟨k - 1, by simp [Form.deep] at h; omega⟩
    simp [Form.deep] at h
    simp [Form.enc, pD, Form.py, toD_enc f m (by omega)]
  | .tied f g l e la t, k, h => by
    obtain ⟨m, rfl⟩ : ∃ m, k = m + 1 := ⟨k - 1, by simp [Form.deep] at h; omega⟩
    simp [Form.deep] at h
    simp [Form.enc, pD, Form.py, toD_enc f m (by omega), toD_enc la m (by omega)]
  | .series fs t, k, h => by
    obtain ⟨m, rfl⟩ : ∃ m, k = m + 2 := ⟨k - 2, by simp [Form.deep] at h; omega⟩
    simp [Form.deep] at h
    simp [Form.enc, pD, Form.py, toD_encL fs m (by omega)]
theorem toD_encL : ∀ (fs : List Form) (k : Nat), 2 * deepL fs ≤ k → (encL fs).mapM (pD k) = some (pyL fs)
  | [], k, h => by simp [encL, pyL]
  | f :: fs, k, h => by
    simp [deepL] at h
    simp [encL, pyL, toD_enc f k (by omega), toD_encL fs k (by omega)]
end
theorem turn_ok (t : Turn) : PyData.strOk t.s = true := by cases t <;> decide +kernel
theorem word_ok : PyData.strOk s_point = true ∧ PyData.strOk s_race = true ∧ PyData.strOk s_tied = true ∧ PyData.strOk s_series = true := by decide +kernel
mutual
theorem lay_py : ∀ f : Form, f.py.canLay0 = true
  | .point => by simp [Form.py, PyData.canLay0, PyData.canLayAll0, word_ok]
  | .race f g l t => by simp [Form.py, PyData.canLay0, PyData.canLayAll0, lay_py f, turn_ok, word_ok]
  | .tied f g l e la t => by simp [Form.py, PyData.canLay0, PyData.canLayAll0, lay_py f, lay_py la, turn_ok, word_ok]
  | .series fs t => by simp [Form.py, PyData.canLay0, PyData.canLayAll0, lay_pyL fs, turn_ok, word_ok]
theorem lay_pyL : ∀ fs : List Form, PyData.canLayAll0 (pyL fs) = true
  | [] => rfl
  | f :: fs => by simp [pyL, PyData.canLayAll0, lay_py f, lay_pyL fs]
end
mutual
theorem depth_py : ∀ f : Form, f.py.depth ≤ 2 * f.deep
  | .point => by simp [Form.py, PyData.depth, PyData.depthAll, Form.deep]
  | .race f g l t => by
    have := depth_py f
    simp [Form.py, PyData.depth, PyData.depthAll, Form.deep]; omega
  | .tied f g l e la t => by
    have := depth_py f
    have := depth_py la
    simp [Form.py, PyData.depth, PyData.depthAll, Form.deep]; omega
  | .series fs t => by
    have := depth_pyL fs
    simp [Form.py, PyData.depth, PyData.depthAll, Form.deep]; omega
theorem depth_pyL : ∀ fs : List Form, PyData.depthAll (pyL fs) ≤ 2 * deepL fs
  | [] => by simp [pyL, PyData.depthAll]
  | f :: fs => by
    have := depth_py f
    have := depth_pyL fs
    simp [pyL, PyData.depthAll, deepL]; omega
end
theorem shaped_py {f : Form} (h : f.deep ≤ 12) : SeqAt.shaped f.py = true := by
  unfold SeqAt.shaped
  have := depth_py f
  rw [lay_py, Bool.true_and, decide_eq_true_eq]; omega
theorem py_tuple : ∀ f : Form, ∃ d ds, f.py = .tuple (d :: ds)
  | .point => ⟨_, _, rfl⟩
  | .race _ _ _ _ => ⟨_, _, rfl⟩
  | .tied _ _ _ _ _ _ => ⟨_, _, rfl⟩
  | .series _ _ => ⟨_, _, rfl⟩
theorem enc_tup : ∀ f : Form, ∃ xs, f.enc = .tup xs
  | .point => ⟨_, rfl⟩
  | .race _ _ _ _ => ⟨_, rfl⟩
  | .tied _ _ _ _ _ _ => ⟨_, rfl⟩
  | .series _ _ => ⟨_, rfl⟩
theorem eq_tup {a b : PV} {d e : PyData} (h1 : pD eqDeep a = some d) (h2 : pD eqDeep b = some e) (hs : SeqAt.shaped d = true) (ht : SeqAt.shaped e = true) (h3 : pscal a b = none) : peqM a b = some (PyData.eqv d e) := by
  unfold peqM
  rw [h3, h1, h2]
  simp only
  rw [if_pos ⟨hs, ht⟩]
/-- no form is the empty tuple -/
theorem enc_ne_nil {f : Form} (h : f.deep ≤ 12) : pcmp .eq f.enc (.tup []) = some (.bool false) := by
  have e : peqM f.enc (.tup []) = some false := by
    obtain ⟨xs, e1⟩ := enc_tup f
    obtain ⟨d, ds, e2⟩ := py_tuple f
    rw [eq_tup (toD_enc f eqDeep (by show 2 * f.deep ≤ 24; omega)) (e := .tuple []) rfl (shaped_py h) (by decide +kernel) (by rw [e1]; rfl), e2]
    rfl
  show (peqM f.enc (.tup [])).map PV.bool = _
  rw [e]; rfl
/-! ### whether a thing is a form -/
def numB (i a b : Int) : Bool := decide (a ≤ i) && decide (i ≤ b)
/-- a whole number between two -/
def isNum (v : PV) (a b : Int) : Bool := match v with
  | .int i => numB i a b
  | _ => false
theorem e_is_number {n : Nat} (hn : 1 ≤ n) (v : PV) (a b : Int) (hv : ∃ t, pisInst .int v = some t) (ho : v.noO = true) : cl n f_is_number [v, .int a, .int b] = .ok (.bool (isNum v a b)) [] := by
  rw [cz_is_number hn]
  cases v with
  | int i => by_cases h1 : a ≤ i <;> by_cases h2 : i ≤ b <;> simp [c_is_number, isNum, numB, h1, h2]
  | none => simp [c_is_number, isNum]
  | bool _ => simp [c_is_number, isNum]
  | str _ => simp [c_is_number, isNum]
  | tup xs =>
    have ho : noOL xs = true := ho
    simp [c_is_number, isNum, ho]
  | lst o xs =>
    simp at ho
    simp [c_is_number, isNum, ho]
  | dict _ _ _ => obtain ⟨t, h⟩ := hv; cases h
  | obj _ _ _ _ => obtain ⟨t, h⟩ := hv; cases h
  | ro _ => obtain ⟨t, h⟩ := hv; cases h
theorem e_is_numI {n : Nat} (hn : 1 ≤ n) (i a b : Int) : cl n f_is_number [.int i, .int a, .int b] = .ok (.bool (numB i a b)) [] := e_is_number hn _ a b ⟨_, rfl⟩ rfl
theorem in_turns (t : Turn) : pinM (.str t.s) (.tup [.str s_keep, .str s_each, .str s_twos, .str s_pairs, .str s_winner, .str s_on]) = some true := by
  cases t <;> simp [pinM, pseq, pflat, pflatEq, Turn.s]
theorem e_is_turn {n : Nat} (hn : 1 ≤ n) (t : Turn) : cl n f_is_turn [.str t.s] = .ok (.bool true) [] := by
  rw [cz_is_turn hn]
  simp [c_is_turn, in_turns]
mutual
/-- a form's shape, so deep at most -/
def Form.shp : Nat → Form → Bool
  | 0, _ => false
  | r + 1, .point => true
  | r + 1, .race f g l _ => f.shp r && (numB g 1 30 && numB l 1 3)
  | r + 1, .tied f g l e la _ => (f.shp r && (numB g 1 30 && numB l 1 3)) && (numB e 1 30 && (la.shp r && (decide (1 < l) || decide (e < g))))
  | r + 1, .series fs _ => decide (fs.length = 1 ∨ fs.length = 3 ∨ fs.length = 5 ∨ fs.length = 7) && shpL r fs
def shpL : Nat → List Form → Bool
  | _, [] => true
  | r, f :: fs => f.shp r && shpL r fs
end
theorem shpL_all (r : Nat) : ∀ fs : List Form, shpL r fs = (fs.map fun f => f.shp r).all id
  | [] => rfl
  | f :: fs => by simp [shpL, shpL_all r fs]
theorem e_is_race {r n : Nat} (hn : 2 ≤ n) {f : Form} {g l : Int} {t : Turn} (ih : cl (n - 1) f_is_shape [f.enc, .int r] = .ok (.bool (f.shp r)) []) (x : PV) (rest : List PV) (hx : x = .str s_race ∨ x = .str s_tied) (hr : noOL rest = true) (hl : (x :: f.enc :: .int g :: .int l :: rest).getLast? = some (.str t.s)) :
    cl n f_is_race [.tup (x :: f.enc :: .int g :: .int l :: rest), .int r] = .ok (.bool (f.shp r && (numB g 1 30 && numB l 1 3))) [] := by
  rw [cz_is_race (by omega)]
  have e2 := e_is_numI (show 1 ≤ n - 1 by omega) g 1 30
  have e3 := e_is_numI (show 1 ≤ n - 1 by omega) l 1 3
  have e4 := e_is_turn (show 1 ≤ n - 1 by omega) t
  have e5 := at_last hl
  have hx2 : x.noO = true := by rcases hx with rfl | rfl <;> rfl
  cases h1 : f.shp r <;> rw [h1] at ih
  · simp [c_is_race, hx2, hr, ih]
  · cases h2 : numB g 1 30 <;> rw [h2] at e2
    · simp [c_is_race, hx2, hr, ih, e2]
    · cases h3 : numB l 1 3 <;> rw [h3] at e3
      · simp [c_is_race, hx2, hr, ih, e2, e3]
      · simp [c_is_race, hx2, hr, ih, e2, e3, e5, e4]

/-! ### whether a thing is a form: the rest -/
theorem e_is_tied {r n : Nat} (hn : 3 ≤ n) {f la : Form} {g l e : Int} {t : Turn} (ih : cl (n - 1 - 1) f_is_shape [f.enc, .int r] = .ok (.bool (f.shp r)) []) (ih2 : cl (n - 1) f_is_shape [la.enc, .int r] = .ok (.bool (la.shp r)) []) :
    cl n f_is_tied [(Form.tied f g l e la t).enc, .int r] = .ok (.bool ((f.shp r && (numB g 1 30 && numB l 1 3)) && (numB e 1 30 && (la.shp r && (decide (1 < l) || decide (e < g)))))) [] := by
  rw [cz_is_tied (by omega)]
  have e1 := e_is_race (n := n - 1) (by omega) (f := f) (g := g) (l := l) (t := t) ih (.str s_tied) [.int e, la.enc, .str t.s] (.inr rfl) (by simp) rfl
  have e2 := e_is_numI (show 1 ≤ n - 1 by omega) e 1 30
  simp only [Form.enc]
  cases h1 : (f.shp r && (numB g 1 30 && numB l 1 3)) <;> rw [h1] at e1
  · simp [c_is_tied, e1]
  · cases h2 : numB e 1 30 <;> rw [h2] at e2
    · simp [c_is_tied, e1, e2]
    · cases h3 : la.shp r <;> rw [h3] at ih2
      · simp [c_is_tied, e1, e2, ih2]
      · by_cases h4 : 1 < l <;> by_cases h5 : e < g <;> simp [c_is_tied, e1, e2, ih2, h4, h5]
theorem in_1357 (fs : List Form) : pinM (.int (encL fs).length) (.tup [.int 1, .int 3, .int 5, .int 7]) = some (decide (fs.length = 1 ∨ fs.length = 3 ∨ fs.length = 5 ∨ fs.length = 7)) := by
  rw [encL_length]
  simp only [pinM, pseq, Option.bind_some]
  rw [if_pos ⟨rfl, rfl⟩]
  simp only [List.any_cons, List.any_nil, pflatEq, Bool.or_false]
  congr 1
  rw [Bool.eq_iff_iff]
  simp
  omega
theorem e_is_series {r n : Nat} (hn : 2 ≤ n) {fs : List Form} {t : Turn} (ih : ∀ f ∈ fs, cl (n - 1) f_is_shape [f.enc, .int r] = .ok (.bool (f.shp r)) []) :
    cl n f_is_series [.tup [.str s_series, .tup (encL fs), .str t.s], .int r] = .ok (.bool (decide (fs.length = 1 ∨ fs.length = 3 ∨ fs.length = 5 ∨ fs.length = 7) && shpL r fs)) [] := by
  rw [cz_is_series (by omega)]
  have e1 := e_is_turn (show 1 ≤ n - 1 by omega) t
  have e2 := in_1357 fs
  by_cases hl : fs.length = 1 ∨ fs.length = 3 ∨ fs.length = 5 ∨ fs.length = 7
  · rw [decide_eq_true hl] at e2 ⊢
    have e3 := comp_is (f := stepP (FN (n - 1)) 2 .nil (.call f_is_shape (.cons (.var 2) (.cons (.var 1) .nil)))) (i := 2) (e := [some (.tup [.str s_series, .tup (encL fs), .str t.s]), some (.int r), none]) Form.enc (fun f => PV.bool (f.shp r)) (by simp) fs (by omega) (fun f hf w => ⟨_, by simp [step_0, ih f hf]; rfl⟩)
    rw [← encL_map] at e3
    simp at e3
    simp [c_is_series, e2, e1, e3, shpL_all]
  · rw [decide_eq_false hl] at e2 ⊢
    simp [c_is_series, e2]
theorem e_is_shape : ∀ (r : Nat) (f : Form) (n : Nat), r ≤ 12 → f.deep ≤ 12 → 3 * r + 1 ≤ n → cl n f_is_shape [f.enc, .int r] = .ok (.bool (f.shp r)) [] := by
  intro r
  induction r with
  | zero =>
    intro f n _ _ hn
    rw [cz_is_shape (by omega)]
    simp [c_is_shape, Form.shp]
  | succ r ih =>
    intro f n h12 hd hn
    rw [cz_is_shape (by omega)]
    have hr : ((r : Int) + 1 = 0) = False := eq_false (by omega)
    have hr2 : (((r + 1 : Nat) : Int)) = (r : Int) + 1 := by omega
    rw [hr2]
    have hc := enc_ne_nil hd
    cases f with
    | point =>
      simp only [Form.enc] at hc
      simp [c_is_shape, Form.enc, hr, hc, Form.shp]
    | race f g l t =>
      simp only [Form.enc] at hc
      simp only [Form.deep] at hd
      have e1 := e_is_race (n := n - 1) (by omega) (f := f) (g := g) (l := l) (t := t) (r := r) (ih f _ (by omega) (by omega) (by omega)) (.str s_race) [.str t.s] (.inl rfl) (by simp) rfl
      simp [c_is_shape, Form.enc, hr, hc, e1, Form.shp]
    | tied f g l e la t =>
      simp only [Form.enc] at hc
      simp only [Form.deep] at hd
      have e1 := e_is_tied (n := n - 1) (by omega) (f := f) (g := g) (l := l) (t := t) (e := e) (la := la) (r := r) (ih f _ (by omega) (by omega) (by omega)) (ih la _ (by omega) (by omega) (by omega))
      simp only [Form.enc] at e1
      simp [c_is_shape, Form.enc, hr, hc, e1, Form.shp]
    | series fs t =>
      simp only [Form.enc] at hc
      simp only [Form.deep] at hd
      have e1 := e_is_series (n := n - 1) (by omega) (fs := fs) (t := t) (r := r) (fun f hf => ih f _ (by omega) (by have := deepL_mem hf; omega) (by omega))
      simp [c_is_shape, Form.enc, hr, hc, e1, Form.shp]
theorem shpL_iff {r : Nat} : ∀ {fs : List Form}, (∀ f ∈ fs, f.shp r = true ↔ f.ok ∧ f.deep ≤ r) → (shpL r fs = true ↔ okL fs ∧ deepL fs ≤ r)
  | [], _ => by simp [shpL, okL, deepL]
  | f :: fs, h => by
    have h1 := h f List.mem_cons_self
    have h2 := shpL_iff fun g hg => h g (List.mem_cons_of_mem _ hg)
    simp only [shpL, okL, deepL, Bool.and_eq_true, h1, h2]
    exact ⟨fun ⟨⟨a, b⟩, c, d⟩ => ⟨⟨a, c⟩, by omega⟩, fun ⟨⟨a, c⟩, d⟩ => ⟨⟨a, by omega⟩, c, by omega⟩⟩
theorem shp_iff : ∀ (r : Nat) (f : Form), f.shp r = true ↔ f.ok ∧ f.deep ≤ r := by
  intro r
  induction r with
  | zero =>
    intro f
    have := deep_pos f
    simp [Form.shp]
    omega
  | succ r ih =>
    intro f
    cases f with
    | point => simp [Form.shp, Form.ok, Form.deep]
    | race f g l t =>
      simp only [Form.shp, Form.ok, Form.deep, Bool.and_eq_true, ih, numB, decide_eq_true_eq]
      exact ⟨fun ⟨⟨a, b⟩, c, d⟩ => ⟨⟨a, c, d⟩, by omega⟩, fun ⟨⟨a, c, d⟩, b⟩ => ⟨⟨a, by omega⟩, c, d⟩⟩
    | tied f g l e la t =>
      simp only [Form.shp, Form.ok, Form.deep, Bool.and_eq_true, Bool.or_eq_true, ih, numB, decide_eq_true_eq]
      exact ⟨fun ⟨⟨⟨a, b⟩, c, d⟩, e, ⟨h, i⟩, j⟩ => ⟨⟨a, c, d, e, h, j⟩, by omega⟩, fun ⟨⟨a, c, d, e, h, j⟩, b⟩ => ⟨⟨⟨a, by omega⟩, c, d⟩, e, ⟨h, by omega⟩, j⟩⟩
    | series fs t =>
      simp only [Form.shp, Form.ok, Form.deep, Bool.and_eq_true, decide_eq_true_eq, shpL_iff fun f _ => ih f]
      exact ⟨fun ⟨a, b, c⟩ => ⟨⟨b, a⟩, by omega⟩, fun ⟨⟨b, a⟩, c⟩ => ⟨a, b, by omega⟩⟩
/-! ### size, depth -/
theorem e_parts {n : Nat} (hn : 1 ≤ n) (f : Form) : cl n f_parts [f.enc] = .ok (.lst true (encL f.parts)) [] := by
  rw [cz_parts hn]
  cases f <;> simp [c_parts, Form.enc, Form.parts, encL]
theorem size_parts (f : Form) : f.size = 1 + (f.parts.map Form.size).sum := by
  cases f with
  | point => rfl
  | race f _ _ _ => simp [Form.size, Form.parts]
  | tied f _ _ _ l _ => simp [Form.size, Form.parts]
  | series fs _ => simp [Form.size, Form.parts, sizeL_sum]
theorem deepL_max : ∀ fs : List Form, deepL fs = (fs.map Form.deep).foldl max 0 := by
  have key : ∀ (fs : List Form) (k : Nat), max k (deepL fs) = (fs.map Form.deep).foldl max k := by
    intro fs
    induction fs with
    | nil => intro k; simp [deepL]
    | cons f fs ih => intro k; simp only [List.map_cons, List.foldl_cons, ← ih, deepL]; omega
  intro fs
  rw [← key]; omega
theorem parts_deep (f : Form) : f.deep = 1 + deepL f.parts := by
  cases f with
  | point => simp [Form.deep, Form.parts, deepL]
  | race f _ _ _ => simp [Form.deep, Form.parts, deepL]
  | tied f _ _ _ l _ => simp [Form.deep, Form.parts, deepL]
  | series fs _ => simp [Form.deep, Form.parts]
def Form.wid : Form → Nat
  | .series fs _ => fs.length
  | _ => 2
theorem parts_len (f : Form) : f.parts.length ≤ f.wid := by cases f <;> simp [Form.parts, Form.wid]
theorem sum_cast : ∀ xs : List Nat, (((xs.sum : Nat)) : Int) = (xs.map fun (n : Nat) => (n : Int)).sum
  | [] => rfl
  | x :: xs => by simp [← sum_cast xs]
theorem size_len : ∀ f : Form, f.parts.length ≤ f.size := by
  intro f
  have h : ∀ fs : List Form, fs.length ≤ (fs.map Form.size).sum := by
    intro fs
    induction fs with
    | nil => simp
    | cons f fs ih =>
      have : 1 ≤ f.size := by cases f <;> simp [Form.size]
      simp; omega
  have := size_parts f
  have := h f.parts
  omega
theorem part_size {f g : Form} (h : g ∈ f.parts) : g.size ≤ f.size := by
  rw [size_parts f]
  have key : ∀ fs : List Form, g ∈ fs → g.size ≤ (fs.map Form.size).sum := by
    intro fs
    induction fs with
    | nil => intro h; cases h
    | cons a fs ih =>
      intro h
      rcases List.mem_cons.mp h with rfl | h
      · simp
      · have := ih h; simp; omega
  have := key _ h
  omega
theorem e_size_of : ∀ (d : Nat) (f : Form) (n : Nat), f.deep ≤ d → f.size ≤ 100000 → d + 2 ≤ n → cl n f_size_of [f.enc] = .ok (.int f.size) [] := by
  intro d
  induction d with
  | zero => intro f n h; have := deep_pos f; omega
  | succ d ih =>
    intro f n hd hs hn
    rw [cz_size_of (by omega)]
    have e1 := e_parts (n := n - 1) (by omega) f
    have hl := size_len f
    have e3 := comp_is (f := stepP (FN (n - 1)) 1 .nil (.call f_size_of (.cons (.var 1) .nil))) (i := 1) (e := [some f.enc, none]) Form.enc (fun f => PV.int (f.size : Nat)) (by simp) f.parts (by omega) (fun g hg w => ⟨_, by
      have := ih g (n - 1) (by have := parts_deep f; have := deepL_mem hg; omega) (by have := part_size hg; omega) (by omega)
      simp [step_0, this]; rfl⟩)
    rw [← encL_map] at e3
    simp at e3
    simp [c_size_of, e1, e3]
    rw [size_parts f, Int.natCast_add, sum_cast, List.map_map]
    rfl

/-! ### depth; forms looked at -/
theorem max_0 : ∀ (xs : List Nat) (k : Nat), ((xs.map fun (n : Nat) => (n : Int)).foldl (fun a b => if b > a then b else a) (k : Int)) = ((xs.foldl max k : Nat) : Int)
  | [], k => rfl
  | x :: xs, k => by
    rw [List.map_cons, List.foldl_cons, List.foldl_cons, ← max_0 xs (max k x)]
    congr 1
    split <;> omega
theorem max_nat (xs : List Nat) : maxI (0 :: xs.map fun (n : Nat) => (n : Int)) = some ((xs.foldl max 0 : Nat) : Int) := by
  show some ((xs.map fun (n : Nat) => (n : Int)).foldl (fun a b => if b > a then b else a) ((0 : Nat) : Int)) = _
  rw [max_0]
theorem e_deep_of : ∀ (d : Nat) (f : Form) (n : Nat), f.deep ≤ d → f.size ≤ 100000 → d + 2 ≤ n → cl n f_deep_of [f.enc] = .ok (.int f.deep) [] := by
  intro d
  induction d with
  | zero => intro f n h; have := deep_pos f; omega
  | succ d ih =>
    intro f n hd hs hn
    rw [cz_deep_of (by omega)]
    have e1 := e_parts (n := n - 1) (by omega) f
    have hl := size_len f
    have e3 := comp_is (f := stepP (FN (n - 1)) 1 .nil (.call f_deep_of (.cons (.var 1) .nil))) (i := 1) (e := [some f.enc, none]) Form.enc (fun f => PV.int (f.deep : Nat)) (by simp) f.parts (by omega) (fun g hg w => ⟨_, by
      have := ih g (n - 1) (by have := parts_deep f; have := deepL_mem hg; omega) (by have := part_size hg; omega) (by omega)
      simp [step_0, this]; rfl⟩)
    rw [← encL_map] at e3
    simp at e3
    have e4 : maxI (0 :: f.parts.map fun f => (f.deep : Int)) = some (deepL f.parts : Int) := by
      have := max_nat (f.parts.map Form.deep)
      rw [List.map_map, ← deepL_max] at this
      exact this
    have e5 : 1 + f.parts.length ≤ sizeLine := line_le (by omega)
    simp [c_deep_of, e1, e3, pneed_pos, e5, e4]
    rw [parts_deep f]; omega
def FormOk (f : Form) : Prop := f.ok ∧ f.deep ≤ 4 ∧ f.size ≤ 20
/-- whether it is a form, by what is looked at -/
def isForm (f : Form) : Bool := f.shp 4 && decide (f.size ≤ 20)
theorem isForm_iff (f : Form) : isForm f = true ↔ FormOk f := by
  unfold isForm FormOk
  rw [Bool.and_eq_true, shp_iff, decide_eq_true_eq]
  exact ⟨fun ⟨⟨a, b⟩, c⟩ => ⟨a, b, c⟩, fun ⟨a, b, c⟩ => ⟨⟨a, b⟩, c⟩⟩
theorem e_is_form {n : Nat} (hn : 18 ≤ n) (f : Form) (hd : f.deep ≤ 12) (hs : f.size ≤ 100000) : cl n f_is_form [f.enc] = .ok (.bool (isForm f)) [] := by
  rw [cz_is_form (by omega)]
  have e1 := e_is_shape 4 f (n - 1) (by omega) hd (by omega)
  have e2 := e_size_of 12 f (n - 1) hd hs (by omega)
  unfold isForm
  cases h : f.shp 4 <;> rw [h] at e1
  · simp at e1; simp [c_is_form, e1]
  · simp at e1
    by_cases h2 : f.size ≤ 20
    · have h3 : (f.size : Int) ≤ 20 := by omega
      simp [c_is_form, e1, e2, h2, h3]
    · have h3 : ¬ (f.size : Int) ≤ 20 := by omega
      simp [c_is_form, e1, e2, h2, h3]
theorem e_look_form {n : Nat} (hn : 19 ≤ n) {f : Form} (hf : FormOk f) : cl n f_look_form [f.enc] = .ok .none [] := by
  rw [cz_look_form (by omega)]
  have e1 := e_is_form (n := n - 1) (by omega) f (by have := hf.2.1; omega) (by have := hf.2.2; omega)
  rw [(isForm_iff f).mpr hf] at e1
  simp [c_look_form, e1]
theorem e_deep {n : Nat} (hn : 20 ≤ n) {f : Form} (hf : FormOk f) : cl n f_deep [f.enc] = .ok (.int f.deep) [] := by
  rw [cz_deep (by omega)]
  have e1 := e_look_form (n := n - 1) (by omega) hf
  have e2 := e_deep_of 4 f (n - 1) hf.2.1 (by have := hf.2.2; omega) (by omega)
  simp [c_deep, e1, e2]
theorem e_size {n : Nat} (hn : 20 ≤ n) {f : Form} (hf : FormOk f) : cl n f_size [f.enc] = .ok (.int f.size) [] := by
  rw [cz_size (by omega)]
  have e1 := e_look_form (n := n - 1) (by omega) hf
  have e2 := e_size_of 4 f (n - 1) hf.2.1 (by have := hf.2.2; omega) (by omega)
  simp [c_size, e1, e2]

/-! ### refused forms -/
theorem x_look_form {n : Nat} (hn : 19 ≤ n) {f : Form} (hd : f.deep ≤ 12) (hs : f.size ≤ 100000) (hf : isForm f = false) : cl n f_look_form [f.enc] = .exc "BadForm" .none [] := by
  rw [cz_look_form (by omega)]
  have e1 := e_is_form (n := n - 1) (by omega) f hd hs
  rw [hf] at e1
  simp [c_look_form, e1]
theorem x_deep {n : Nat} (hn : 20 ≤ n) {f : Form} (hd : f.deep ≤ 12) (hs : f.size ≤ 100000) (hf : isForm f = false) : cl n f_deep [f.enc] = .exc "BadForm" .none [] := by
  rw [cz_deep (by omega)]
  have e1 := x_look_form (n := n - 1) (by omega) hd hs hf
  simp [c_deep, e1]
theorem x_size {n : Nat} (hn : 20 ≤ n) {f : Form} (hd : f.deep ≤ 12) (hs : f.size ≤ 100000) (hf : isForm f = false) : cl n f_size [f.enc] = .exc "BadForm" .none [] := by
  rw [cz_size (by omega)]
  have e1 := x_look_form (n := n - 1) (by omega) hd hs hf
  simp [c_size, e1]

/-! ### numbers drawn from the script -/
def cellF (ns : List Int) (k : Nat) : Int := if ns = [] then 0 else ns.getD (k % ns.length) 0
def mixF (ns : List Int) (k : Nat) : Int :=
  let a := (cellF ns k + 104729 * ((k : Int) + 1)) % 4294967291
  let b := a ^ 5 % 4294967279
  (b / 64 * 69621 + b) % 4294967231
/-- the number drawn k-th, below m -/
def drawF (ns : List Int) (k : Nat) (m : Int) : Int := mixF ns k / 8 % m
theorem draw_lt (ns : List Int) (k : Nat) {m : Int} (h : 0 < m) : 0 ≤ drawF ns k m ∧ drawF ns k m < m := ⟨Int.emod_nonneg _ (by omega), Int.emod_lt_of_pos _ h⟩
def scr (ns : List Int) : PV := .ro (ns.map PV.int)
def town (d : Nat) : PV := .lst true (List.replicate d (.int 0))
@[simp] theorem noO_scr {ns : List Int} : (scr ns).noO = true := by simp [scr]
@[simp] theorem frz_scr {ns : List Int} : (scr ns).frz = scr ns := by simp [scr]
@[simp] theorem noO_town {d : Nat} : (town d).noO = false := rfl
@[simp] theorem noF_town {d : Nat} : (town d).noF = true := by simp [town]
@[simp] theorem frz_town {d : Nat} : (town d).frz = .lst false (List.replicate d (.int 0)) := by simp [town]
theorem e_cell {n : Nat} (hn : 1 ≤ n) (ns : List Int) (k : Nat) : cl n f__law_cell [scr ns, .int k] = .ok (.int (cellF ns k)) [] := by
  rw [cz__law_cell hn]
  by_cases c : ns = []
  · subst c
    simp [c__law_cell, scr, cellF]
  · have hp : 0 < ns.length := List.length_pos_iff.mpr c
    have hm := pb_mod (i := k) (j := ns.length) (by omega)
    have e : ((k : Int) % (ns.length : Int)) = ((k % ns.length : Nat) : Int) := by omega
    have hlt : k % ns.length < ns.length := Nat.mod_lt _ hp
    have hx : L2.atI (ns.map PV.int) ((k : Int) % (ns.length : Int)) = some (.int (ns.getD (k % ns.length) 0)) := by
      rw [e]
      exact at_nat (by simp [hlt])
    have he : (ns.map PV.int).isEmpty = false := by cases ns <;> simp at c ⊢
    simp [c__law_cell, scr, cellF, c, hm, hx]
theorem e_mix {n : Nat} (hn : 2 ≤ n) (ns : List Int) (k : Nat) : cl n f__law_mix [scr ns, .int k] = .ok (.int (mixF ns k)) [] := by
  rw [cz__law_mix (by omega)]
  have e1 := e_cell (n := n - 1) (by omega) ns k
  have e2 : pbin .mul (.int 104729) (.int ((k : Int) + 1)) = _ := pb_mul (.inl (by decide))
  have e3 := pb_mod (i := cellF ns k + 104729 * ((k : Int) + 1)) (j := 4294967291) (by decide)
  generalize ha : (cellF ns k + 104729 * ((k : Int) + 1)) % 4294967291 = a at e3
  have ha1 : 0 ≤ a ∧ a < 4294967291 := by subst ha; exact ⟨Int.emod_nonneg _ (by decide), Int.emod_lt_of_pos _ (by decide)⟩
  have e4 : pbin .pow (.int a) (.int 5) = some (.int (a ^ 5)) := pb_pow (j := 5) ⟨by decide, by decide, by omega⟩
  have e5 := pb_mod (i := a ^ 5) (j := 4294967279) (by decide)
  generalize hb : a ^ 5 % 4294967279 = b at e5
  have e6 := pb_fdiv (i := b) (j := 64) (by decide) (by decide)
  have e7 : pbin .mul (.int (b / 64)) (.int 69621) = _ := pb_mul (.inr (by decide))
  have e8 := pb_mod (i := b / 64 * 69621 + b) (j := 4294967231) (by decide)
  simp [c__law_mix, e1, e2, e3, e4, e5, e6, e7, e8]
  simp only [mixF, ha, hb]
theorem e_draw {n : Nat} (hn : 3 ≤ n) (ns : List Int) {d : Nat} (hd : d ≤ 100000) {m : Int} (hm : 0 < m) : cl n f__law_draw [scr ns, town d, .int m] = .ok (.int (drawF ns (d + 1) m)) [town (d + 1)] := by
  rw [cz__law_draw (by omega)]
  have e4 := e_mix (n := n - 1) (by omega) ns (d + 1)
  have e5 := pb_fdiv (i := mixF ns (d + 1)) (j := 8) (by decide) (by decide)
  have e6 := pb_mod (i := mixF ns (d + 1) / 8) hm
  have e7 : List.replicate d (PV.int 0) ++ [PV.int 0] = List.replicate (d + 1) (PV.int 0) := List.replicate_succ'.symm
  have e8 : d < sizeLine := line_lt (by omega)
  simp at e4
  simp [c__law_draw, town, e7, pneed_pos, e8, e4, e5, e6, drawF]
theorem e_pick {n : Nat} (hn : 4 ≤ n) (ns : List Int) {d : Nat} (hd : d ≤ 100000) {xs : List PV} (hx : 0 < xs.length) (ho : noOL xs = true) : cl n f__law_pick [scr ns, town d, .lst false xs] = .ok (xs.getD (drawF ns (d + 1) xs.length).toNat .none) [town (d + 1)] := by
  rw [cz__law_pick (by omega)]
  have e1 := e_draw (n := n - 1) (by omega) ns hd (m := xs.length) (by omega)
  have hb := draw_lt ns (d + 1) (m := xs.length) (by omega)
  generalize hj : drawF ns (d + 1) xs.length = j at *
  obtain ⟨i, rfl⟩ : ∃ i : Nat, j = i := ⟨j.toNat, by omega⟩
  have hi : i < xs.length := by omega
  have e3 : L2.atI xs (i : Int) = some (xs.getD i .none) := at_nat (by simp [hi])
  have e4 : (xs.getD i .none).noO = true := noOL_all.mp ho _ (by simp [hi])
  simp at e3 e4
  simp [c__law_pick, ho, e1, e3, e4]
def turnOf (j : Int) : Turn := if j = 0 then .keep else if j = 1 then .each else if j = 2 then .twos else if j = 3 then .pairs else if j = 4 then .winner else .on
theorem e_turn {n : Nat} (hn : 5 ≤ n) (ns : List Int) {d : Nat} (hd : d ≤ 100000) : ∃ t : Turn, cl n f__law_turn [scr ns, town d] = .ok (.str t.s) [town (d + 1)] := by
  refine ⟨turnOf (drawF ns (d + 1) 6), ?_⟩
  rw [cz__law_turn (by omega)]
  have e1 := e_pick (n := n - 1) (by omega) ns hd (xs := [.str s_keep, .str s_each, .str s_twos, .str s_pairs, .str s_winner, .str s_on]) (by simp) (by simp)
  have hb := draw_lt ns (d + 1) (m := 6) (by decide)
  have e2 : ([PV.str s_keep, .str s_each, .str s_twos, .str s_pairs, .str s_winner, .str s_on]).getD (drawF ns (d + 1) (([PV.str s_keep, .str s_each, .str s_twos, .str s_pairs, .str s_winner, .str s_on].length : Nat) : Int)).toNat .none = .str (turnOf (drawF ns (d + 1) 6)).s := by
    show ([PV.str s_keep, .str s_each, .str s_twos, .str s_pairs, .str s_winner, .str s_on]).getD (drawF ns (d + 1) 6).toNat .none = _
    generalize drawF ns (d + 1) 6 = j at hb
    have : j = 0 ∨ j = 1 ∨ j = 2 ∨ j = 3 ∨ j = 4 ∨ j = 5 := by omega
    rcases this with rfl | rfl | rfl | rfl | rfl | rfl <;> rfl
  rw [e2] at e1
  simp [c__law_turn, e1]
/-- a number drawn of some -/
theorem e_pickI {n : Nat} (hn : 4 ≤ n) (ns : List Int) {d : Nat} (hd : d ≤ 100000) {xs : List Int} (hx : 0 < xs.length) : ∃ i ∈ xs, cl n f__law_pick [scr ns, town d, .lst false (xs.map PV.int)] = .ok (.int i) [town (d + 1)] := by
  have e1 := e_pick (n := n) hn ns hd (xs := xs.map PV.int) (by simpa using hx) (by simp)
  have hb := draw_lt ns (d + 1) (m := xs.length) (by omega)
  rw [List.length_map] at e1
  generalize drawF ns (d + 1) xs.length = j at *
  obtain ⟨i, rfl⟩ : ∃ i : Nat, j = i := ⟨j.toNat, by omega⟩
  have hi : i < xs.length := by omega
  refine ⟨xs[i], List.getElem_mem hi, ?_⟩
  rw [e1]
  simp [hi]

/-! ### forms that a law draws -/
def formB : Nat → Nat
  | 0 => 1
  | L + 1 => 3 * formB L + 6
def formS : Nat → Nat
  | 0 => 1
  | L + 1 => 1 + 5 * formS L
theorem formS_pos : ∀ L, 1 ≤ formS L
  | 0 => by simp [formS]
  | L + 1 => by simp [formS]
theorem okL_all : ∀ {fs : List Form}, (∀ f ∈ fs, f.ok) → okL fs
  | [], _ => trivial
  | f :: fs, h => ⟨h f List.mem_cons_self, okL_all fun g hg => h g (List.mem_cons_of_mem _ hg)⟩
theorem deepL_le : ∀ {fs : List Form} {n : Nat}, (∀ f ∈ fs, f.deep ≤ n) → deepL fs ≤ n
  | [], n, _ => by simp [deepL]
  | f :: fs, n, h => by
    have h1 := h f List.mem_cons_self
    have h2 := deepL_le fun g hg => h g (List.mem_cons_of_mem f hg)
    simp [deepL]; omega
theorem sizeL_le : ∀ {fs : List Form} {n : Nat}, (∀ f ∈ fs, f.size ≤ n) → sizeL fs ≤ fs.length * n
  | [], n, _ => by simp [sizeL]
  | f :: fs, n, h => by
    have h1 := h f List.mem_cons_self
    have h2 := sizeL_le fun g hg => h g (List.mem_cons_of_mem f hg)
    simp [sizeL, Nat.add_mul]; omega
theorem range2 : pItems .range (.tup [.int 2]) = some [.int 0, .int 1] := by
  have := it_range (n := 2) (by decide)
  exact this
/-- what a drawn form is -/
def Drawn (ns : List Int) (top : Int) (L : Nat) : Prop := ∀ (n d : Nat), 6 + L ≤ n → d + formB L ≤ 90000 → ∃ (f : Form) (d' : Nat), cl n f__law_form [scr ns, town d, .int ((L : Int) + 1), .int top] = .ok f.enc [town d'] ∧ f.ok ∧ f.deep ≤ L + 1 ∧ f.size ≤ formS L ∧ d ≤ d' ∧ d' ≤ d + formB L
theorem e_lform (ns : List Int) {top : Int} (ht : 1 ≤ top) (ht2 : top ≤ 20) : ∀ L : Nat, L ≤ 6 → Drawn ns top L := by
  intro L
  induction L with
  | zero =>
    intro _ n d hn hd
    simp only [formB] at hd
    have e1 := e_draw (n := n - 1) (by omega) ns (d := d) (by omega) (m := 8) (by decide)
    refine ⟨.point, d + 1, ?_, trivial, by simp [Form.deep], by simp [Form.size, formS], by omega, by simp [formB]⟩
    rw [cz__law_form (by omega)]
    simp [c__law_form, e1, Form.enc]
  | succ L ih =>
    intro hL n d hn hd
    have ih := ih (by omega)
    simp only [formB] at hd
    rw [cz__law_form (by omega)]
    have e1 := e_draw (n := n - 1) (by omega) ns (d := d) (by omega) (m := 8) (by decide)
    have b1 := draw_lt ns (d + 1) (m := 8) (by decide)
    generalize drawF ns (d + 1) 8 = kind at e1 b1
    have hl2 : ((L : Int) + 1 + 1 = 1) = False := eq_false (by omega)
    have hl3 : (L : Int) + 1 + 1 - 1 = (L : Int) + 1 := by omega
    have hc : (((L + 1 : Nat) : Int) + 1) = (L : Int) + 1 + 1 := by omega
    rw [hc]
    by_cases c0 : kind = 0
    · refine ⟨.point, d + 1, ?_, trivial, by simp [Form.deep], by simp [Form.size, formS], by omega, by simp only [formB]; omega⟩
      simp [c__law_form, e1, hl2, c0, Form.enc]
    · obtain ⟨t, e2⟩ := e_turn (n := n - 1) (by omega) ns (d := d + 1) (by omega)
      obtain ⟨f1, d1, e3, o1, dp1, sz1, m1, m2⟩ := ih (n - 1) (d + 1 + 1) (by omega) (by omega)
      have e4 := e_draw (n := n - 1) (by omega) ns (d := d1) (by omega) (m := top) (by omega)
      have b4 := draw_lt ns (d1 + 1) (m := top) (by omega)
      generalize drawF ns (d1 + 1) top = g at e4 b4
      obtain ⟨l, b5, e5⟩ := e_pickI (n := n - 1) (by omega) ns (d := d1 + 1) (by omega) (xs := [1, 2, 2, 3]) (by simp)
      have b6 : 1 ≤ l ∧ l ≤ 3 := by simp at b5; omega
      simp at e5
      by_cases c1 : kind < 4
      · refine ⟨.race f1 (1 + g) l t, d1 + 1 + 1, ?_, ⟨o1, by omega, b6⟩, by simp [Form.deep]; omega, by simp [Form.size, formS]; omega, by omega, by simp only [formB]; omega⟩
        simp [c__law_form, e1, hl2, hl3, c0, e2, e3, e4, e5, c1, Form.enc]
      · by_cases c2 : kind < 6
        · have e7 := e_draw (n := n - 1) (by omega) ns (d := d1 + 1 + 1) (by omega) (m := top) (by omega)
          have b7 := draw_lt ns (d1 + 1 + 1 + 1) (m := top) (by omega)
          generalize drawF ns (d1 + 1 + 1 + 1) top = ev at e7 b7
          obtain ⟨f2, d2, e8, o2, dp2, sz2, m3, m4⟩ := ih (n - 1) (d1 + 1 + 1 + 1) (by omega) (by omega)
          by_cases c3 : l = 1
          · by_cases c4 : 1 + g ≤ 1 + ev
            · refine ⟨.tied f1 (1 + ev + 1) l (1 + ev) f2 t, d2, ?_, ⟨o1, by omega, b6, by omega, o2, by omega⟩, by simp [Form.deep]; omega, by simp [Form.size, formS]; omega, by omega, by simp only [formB]; omega⟩
              subst c3
              simp [c__law_form, e1, hl2, hl3, c0, e2, e3, e4, e5, c1, c2, e7, c4, e8, Form.enc]
            · refine ⟨.tied f1 (1 + g) l (1 + ev) f2 t, d2, ?_, ⟨o1, by omega, b6, by omega, o2, by omega⟩, by simp [Form.deep]; omega, by simp [Form.size, formS]; omega, by omega, by simp only [formB]; omega⟩
              subst c3
              simp [c__law_form, e1, hl2, hl3, c0, e2, e3, e4, e5, c1, c2, e7, c4, e8, Form.enc]
          · refine ⟨.tied f1 (1 + g) l (1 + ev) f2 t, d2, ?_, ⟨o1, by omega, b6, by omega, o2, by omega⟩, by simp [Form.deep]; omega, by simp [Form.size, formS]; omega, by omega, by simp only [formB]; omega⟩
            simp [c__law_form, e1, hl2, hl3, c0, e2, e3, e4, e5, c1, c2, e7, c3, e8, Form.enc]
        · -- a series
          obtain ⟨f2, d2, q1, o2, dp2, sz2, m3, m4⟩ := ih (n - 1) (d1 + 1 + 1) (by omega) (by omega)
          obtain ⟨f3, d3, q2, o3, dp3, sz3, m5, m6⟩ := ih (n - 1) d2 (by omega) (by omega)
          obtain ⟨j', hj', x3⟩ := e_pickI (n := n - 1) (by omega) ns (d := d3) (by omega) (xs := [1, 3, 3, 5]) (by simp)
          obtain ⟨j, rfl, hj⟩ : ∃ j : Nat, j' = j ∧ (j = 1 ∨ j = 3 ∨ j = 5) := ⟨j'.toNat, by simp at hj'; omega, by simp at hj'; omega⟩
          simp at x3
          have hin : ∀ f ∈ ([f1, f2, f3, f1, f2, f3, f1, f2, f3] : List Form).take j, f.ok ∧ f.deep ≤ L + 1 ∧ f.size ≤ formS L := fun f hf => by
            have := List.mem_of_mem_take hf
            simp at this
            rcases this with rfl | rfl | rfl | rfl | rfl | rfl | rfl | rfl | rfl <;> exact ⟨by assumption, by assumption, by assumption⟩
          have hlen : (([f1, f2, f3, f1, f2, f3, f1, f2, f3] : List Form).take j).length = j := by
            rw [List.length_take]
            rcases hj with rfl | rfl | rfl <;> rfl
          have hsz := sizeL_le fun f hf => (hin f hf).2.2
          have hdp := deepL_le fun f hf => (hin f hf).2.1
          rw [hlen] at hsz
          have hsz2 : j * formS L ≤ 5 * formS L := Nat.mul_le_mul_right _ (by omega)
          refine ⟨.series (([f1, f2, f3, f1, f2, f3, f1, f2, f3] : List Form).take j) t, d3 + 1, ?_, ⟨okL_all fun f hf => (hin f hf).1, by rw [hlen]; omega⟩, by simp only [Form.deep]; omega, by simp only [Form.size, formS]; omega, by omega, by simp only [formB]; omega⟩
          have hcut : cut [f1.enc, f2.enc, f3.enc, f1.enc, f2.enc, f3.enc, f1.enc, f2.enc, f3.enc] none (some (j : Int)) = encL (([f1, f2, f3, f1, f2, f3, f1, f2, f3] : List Form).take j) := by
            rcases hj with rfl | rfl | rfl <;> simp [cut, HT.sIx, encL]
          have hmul : pbin .mul (.lst true [f1.enc, f2.enc, f3.enc]) (.int 3) = some (.lst true [f1.enc, f2.enc, f3.enc, f1.enc, f2.enc, f3.enc, f1.enc, f2.enc, f3.enc]) := by
            show pneed _ _ = _
            exact pneed_pos ⟨by decide, by decide, line_le (by simp)⟩
          simp [c__law_form, e1, hl2, hl3, c0, e2, e3, e4, e5, c1, c2, Form.enc, range2, forP, runPS, pbindTo, q1, q2, pneed_pos, hmul, x3, hcut]

/-! ### forms drawn, of at most twenty tuples -/
theorem e_lsize : ∀ (d : Nat) (f : Form) (n : Nat), f.deep ≤ d → f.size ≤ 100000 → d + 1 ≤ n → cl n f__law_size [f.enc] = .ok (.int f.size) [] := by
  intro d
  induction d with
  | zero => intro f n h; have := deep_pos f; omega
  | succ d ih =>
    intro f n hd hs hn
    rw [cz__law_size (by omega)]
    have hl := size_len f
    have e3 := comp_is (f := stepP (FN (n - 1)) 2 .nil (.call f__law_size (.cons (.var 2) .nil))) (i := 2) (e := [some f.enc, some (.lst false (encL f.parts)), none]) Form.enc (fun f => PV.int (f.size : Nat)) (by simp) f.parts (by omega) (fun g hg w => ⟨_, by
      have := ih g (n - 1) (by have := parts_deep f; have := deepL_mem hg; omega) (by have := part_size hg; omega) (by omega)
      simp [step_0, this]; rfl⟩)
    rw [← encL_map] at e3
    simp at e3
    have e4 : (1 : Int) + (f.parts.map fun f => (f.size : Int)).sum = (f.size : Int) := by
      rw [size_parts f, Int.natCast_add, sum_cast, List.map_map]
      rfl
    cases f with
    | point => simp [c__law_size, Form.enc, Form.size]
    | race a g l t =>
      simp only [Form.enc, Form.parts, encL] at e3 e4
      simp [c__law_size, Form.enc, p_share, e3, e4]
      exact e4
    | tied a g l e b t =>
      simp only [Form.enc, Form.parts, encL] at e3 e4
      simp [c__law_size, Form.enc, p_share, e3, e4]
      exact e4
    | series fs t =>
      simp only [Form.enc, Form.parts] at e3 e4
      simp [c__law_size, Form.enc, p_share, e3, e4]
theorem formB_le : ∀ {L : Nat}, L ≤ 6 → formB L ≤ 5000
  | 0, _ => by decide
  | 1, _ => by decide
  | 2, _ => by decide
  | 3, _ => by decide
  | 4, _ => by decide
  | 5, _ => by decide
  | 6, _ => by decide
theorem formS_le : ∀ {L : Nat}, L ≤ 6 → formS L ≤ 50000
  | 0, _ => by decide
  | 1, _ => by decide
  | 2, _ => by decide
  | 3, _ => by decide
  | 4, _ => by decide
  | 5, _ => by decide
  | 6, _ => by decide
theorem e_sized (ns : List Int) {top : Int} (ht : 1 ≤ top) (ht2 : top ≤ 20) {L n d : Nat} (hL : L ≤ 3) (hn : 14 ≤ n) (hd : d ≤ 80000) : ∃ (f : Form) (d' : Nat), cl n f__law_sized [scr ns, town d, .int ((L : Int) + 1), .int top] = .ok f.enc [town d'] ∧ FormOk f ∧ f.deep ≤ max 2 (L + 1) ∧ d ≤ d' ∧ d' ≤ d + 105 := by
  rw [cz__law_sized (by omega)]
  have hb : formB L ≤ 105 := by
    have : L = 0 ∨ L = 1 ∨ L = 2 ∨ L = 3 := by omega
    rcases this with rfl | rfl | rfl | rfl <;> decide
  have hs := formS_le (L := L) (by omega)
  obtain ⟨f, d', e1, o1, dp, sz, m1, m2⟩ := e_lform ns ht ht2 L (by omega) (n - 1) d (by omega) (by omega)
  have e2 := e_lsize (L + 1) f (n - 1) dp (by omega) (by omega)
  by_cases c : f.size ≤ 20
  · have c' : (f.size : Int) ≤ 20 := by omega
    exact ⟨f, d', by simp [c__law_sized, e1, e2, c'], ⟨o1, by omega, c⟩, by omega, m1, by omega⟩
  · have c' : ¬ (f.size : Int) ≤ 20 := by omega
    exact ⟨.race .point top 2 .pairs, d', by simp [c__law_sized, e1, e2, c', Form.enc, Turn.s], ⟨⟨trivial, by omega, by decide⟩, by simp [Form.deep], by simp [Form.size]⟩, by simp [Form.deep]; omega, m1, by omega⟩

/-! ### refusals -/
theorem r_form {n : Nat} (hn : 1 ≤ n) : cl n f__law_refusal [.obj false "BadForm" [] []] = .ok (.tup [.str s_refused, .str s_form]) [] := by
  rw [cz__law_refusal hn]
  kernel_rfl

/-! ### what is told of a form, and what is due -/
def refused2 : List PV := [.tup [.str s_refused, .str s_form], .tup [.str s_refused, .str s_form]]
def found2 (a b : Int) : List PV := [.tup [.str s_found, .int a], .tup [.str s_found, .int b]]
def dueL (a b : Int) : List PV := if 4 < a ∨ 20 < b then refused2 else found2 a b
def toldF (f : Form) : List PV := if isForm f = true then found2 f.deep f.size else refused2
theorem e_due {n : Nat} (hn : 1 ≤ n) (a b : Int) : cl n f__law_due [.int a, .int b] = .ok (.lst true (dueL a b)) [] := by
  rw [cz__law_due hn]
  have hm : pbin .mul (.lst true [.tup [.str s_refused, .str s_form]]) (.int 2) = some (.lst true refused2) := by
    show pneed _ _ = _
    exact pneed_pos ⟨by decide, by decide, line_le (by simp)⟩
  by_cases h1 : 4 < a
  · simp [c__law_due, h1, hm, dueL]
  · by_cases h2 : 20 < b <;> simp [c__law_due, h1, h2, hm, dueL, found2]
theorem told_ok {n : Nat} (hn : 2 ≤ n) {a b v : PV} (ha : a.noO = true) (ha2 : a.frz = a) (hb : b.noO = true) (hb2 : b.frz = b) (hv : v.noO = true) (hv2 : v.noF = true) (h : cl (n - 1) f__law_one [a, b] = .ok v []) : cl n f__law_told [a, b] = .ok (.tup [.str s_found, v]) [] := by
  rw [cz__law_told (by omega)]
  simp [c__law_told, ha, ha2, hb, hb2, h, hv, hv2]
theorem told_form {n : Nat} (hn : 2 ≤ n) {a b : PV} (ha : a.noO = true) (ha2 : a.frz = a) (hb : b.noO = true) (hb2 : b.frz = b) (h : cl (n - 1) f__law_one [a, b] = .exc "BadForm" .none []) : cl n f__law_told [a, b] = .ok (.tup [.str s_refused, .str s_form]) [] := by
  rw [cz__law_told (by omega)]
  have e1 := r_form (n := n - 1) (by omega)
  simp [c__law_told, ha, ha2, hb, hb2, h, e1]
theorem e_told {n : Nat} (hn : 23 ≤ n) {f : Form} (hd : f.deep ≤ 12) (hs : f.size ≤ 100000) {k : Nat} (hk : k < 2) : cl n f__law_told [.int k, f.enc] = .ok ((toldF f).getD k .none) [] := by
  have hk : k = 0 ∨ k = 1 := by omega
  unfold toldF
  cases hf : isForm f with
  | true =>
    have ok := (isForm_iff f).mp hf
    have e1 := e_deep (n := n - 1 - 1) (by omega) ok
    have e2 := e_size (n := n - 1 - 1) (by omega) ok
    rcases hk with rfl | rfl
    · exact told_ok (by omega) rfl rfl (noO_enc f) (frz_enc f) rfl rfl (by rw [cz__law_one (by omega)]; simp [c__law_one, e1])
    · exact told_ok (by omega) rfl rfl (noO_enc f) (frz_enc f) rfl rfl (by rw [cz__law_one (by omega)]; simp [c__law_one, e2])
  | false =>
    have e1 := x_deep (n := n - 1 - 1) (by omega) hd hs hf
    have e2 := x_size (n := n - 1 - 1) (by omega) hd hs hf
    rcases hk with rfl | rfl
    · exact told_form (by omega) rfl rfl (noO_enc f) (frz_enc f) (by rw [cz__law_one (by omega)]; simp [c__law_one, e1])
    · exact told_form (by omega) rfl rfl (noO_enc f) (frz_enc f) (by rw [cz__law_one (by omega)]; simp [c__law_one, e2])

/-! ### a turn of the law's loop -/
theorem told_due {f : Form} (h : f.ok) : dueL f.deep f.size = toldF f := by
  unfold dueL toldF
  by_cases c : isForm f = true
  · have := (isForm_iff f).mp c
    rw [if_pos c, if_neg (by have h1 := this.2.1; have h2 := this.2.2; omega)]
  · rw [if_neg c, if_pos]
    have : ¬ FormOk f := fun z => c ((isForm_iff f).mpr z)
    unfold FormOk at this
    by_cases h1 : f.deep ≤ 4
    · have : ¬ f.size ≤ 20 := fun z => this ⟨h, h1, z⟩
      omega
    · omega
theorem told_not {f : Form} (h : ¬ f.ok) : dueL 5 1 = toldF f := by
  unfold dueL toldF
  rw [if_pos (by decide), if_neg]
  intro c
  exact h ((isForm_iff f).mp c).1
theorem told_ne (f : Form) : pcmp .ne (.lst true (toldF f)) (.lst true (toldF f)) = some (.bool false) := by
  have hs1 : PyData.strOk s_found = true := by decide +kernel
  have hs2 : PyData.strOk s_refused = true := by decide +kernel
  have hs3 : PyData.strOk s_form = true := by decide +kernel
  unfold toldF
  split
  · exact ne_same (d := .list [.tuple [.str s_found, .int f.deep], .tuple [.str s_found, .int f.size]]) rfl rfl (by simp [SeqAt.shaped, PyData.canLay0, PyData.canLayAll0, PyData.depth, PyData.depthAll, hs1, hs2, hs3]) rfl
  · exact ne_same (d := .list [.tuple [.str s_refused, .str s_form], .tuple [.str s_refused, .str s_form]]) rfl rfl (by simp [SeqAt.shaped, PyData.canLay0, PyData.canLayAll0, PyData.depth, PyData.depthAll, hs1, hs2, hs3]) rfl
theorem toldF_noO (f : Form) : noOL (toldF f) = true := by
  unfold toldF; split <;> rfl
theorem toldF_noF (f : Form) : noFL (toldF f) = true := by
  unfold toldF; split <;> rfl
theorem e_tolds {n : Nat} (hn : 23 ≤ n) {f : Form} (hd : f.deep ≤ 12) (hs : f.size ≤ 100000) {e : PEnv} {v : Nat} (he : 19 < e.length) (hv : e[v]? = some (some f.enc)) (hv2 : v ≠ 19) : compR (stepP (FN n) 19 .nil (.call f__law_told (.cons (.var 19) (.cons (.var v) .nil)))) 19 [.int 0, .int 1] e = .ok [⟨.lst true (toldF f), none⟩] (e.set 19 (back e 19)) := by
  have h := comp_is (f := stepP (FN n) 19 .nil (.call f__law_told (.cons (.var 19) (.cons (.var v) .nil)))) (i := 19) (e := e) (fun k : Nat => PV.int k) (fun k => (toldF f).getD k .none) he [0, 1] (by simp) (fun k hk w => ⟨_, by
    have hk : k < 2 := by simp at hk; omega
    have e1 := e_told hn hd hs hk
    have no : ((toldF f).getD k .none).noO = true := by unfold toldF; split <;> (rcases (show k = 0 ∨ k = 1 by omega) with rfl | rfl) <;> rfl
    have fz : ((toldF f).getD k .none).frz = (toldF f).getD k .none := by unfold toldF; split <;> (rcases (show k = 0 ∨ k = 1 by omega) with rfl | rfl) <;> rfl
    have nf : ((toldF f).getD k .none).noF = true := by unfold toldF; split <;> (rcases (show k = 0 ∨ k = 1 by omega) with rfl | rfl) <;> rfl
    have l1 : (e.set 19 (some (PV.int k)))[v]? = some (some f.enc) := by rw [List.getElem?_set_ne (Ne.symm hv2)]; exact hv
    have l2 : (e.set 19 (some (PV.int k)))[19]? = some (some (.int k)) := by simp [he]
    simp only [step_0, List.set_set, List.getD_eq_getElem?_getD] at e1 no fz nf ⊢
    simp [l1, l2, e1, no, fz, nf]
    rfl⟩)
  have hm : (toldF f) = ([0, 1] : List Nat).map fun k => (toldF f).getD k .none := by unfold toldF; split <;> rfl
  rw [← hm] at h
  exact h
theorem max_deep {fs : List Form} (h : fs ≠ []) : maxI (fs.map fun f => (f.deep : Int)) = some (deepL fs : Int) := by
  cases fs with
  | nil => exact absurd rfl h
  | cons f fs =>
    have e4 := max_0 (fs.map Form.deep) f.deep
    have e5 := deepL_max (f :: fs)
    rw [List.map_map] at e4
    show some ((fs.map fun f => (f.deep : Int)).foldl (fun a b => if b > a then b else a) (f.deep : Int)) = _
    have e6 : ((fs.map fun f => (f.deep : Int)).foldl (fun a b => if b > a then b else a) (f.deep : Int)) = _ := e4
    rw [e6, e5, List.map_cons, List.foldl_cons, Nat.zero_max]
theorem sum_size (fs : List Form) : (fs.map fun f => (f.size : Int)).sum = (sizeL fs : Int) := by
  induction fs with
  | nil => rfl
  | cons f fs ih => rw [List.map_cons, List.sum_cons, ih, sizeL]; omega
theorem cut_to {α : Type} {xs : List α} {m : Nat} (h : m ≤ xs.length) : cut xs none (some (m : Int)) = xs.take m := by
  unfold cut
  have : HT.sIx xs.length xs.length (some (m : Int)) = m := by
    simp only [HT.sIx]
    rw [if_neg (by omega)]
    simp
    omega
  rw [this]
  simp [HT.sIx]
theorem encs_of : ∀ {ys : List PV}, (∀ y ∈ ys, ∃ f : Form, y = f.enc ∧ FormOk f) → ∃ fs : List Form, ys = encL fs ∧ ∀ f ∈ fs, FormOk f
  | [], _ => ⟨[], rfl, by simp⟩
  | y :: ys, h => by
    obtain ⟨f, rfl, hf⟩ := h y List.mem_cons_self
    obtain ⟨fs, rfl, hfs⟩ := encs_of fun z hz => h z (List.mem_cons_of_mem _ hz)
    exact ⟨f :: fs, rfl, fun g hg => (List.mem_cons.mp hg).elim (fun z => z ▸ hf) (hfs g)⟩

/-- the law's slots: the script, the town, and what the turns leave -/
def lwE (ns : List Int) (d : Nat) (a2 a6 a7 a8 a9 a10 a11 a12 a13 a14 a15 a16 a17 a18 : Option PV) : PEnv := [some (scr ns), some (town d), a2, none, none, none, a6, a7, a8, a9, a10, a11, a12, a13, a14, a15, a16, a17, a18, none, none, none]
theorem r7 : pItems .range (.tup [.int 7]) = some [.int 0, .int 1, .int 2, .int 3, .int 4, .int 5, .int 6] := it_range (n := 7) (by decide)
theorem seven {α : Type} {fs : List α} (h : fs.length = 7) : ∃ f0 f1 f2 f3 f4 f5 f6, fs = [f0, f1, f2, f3, f4, f5, f6] := by
  match fs, h with
  | [a, b, c, d, e, f, g], _ => exact ⟨a, b, c, d, e, f, g, rfl⟩
def LwI (ns : List Int) (b : Nat) (e : PEnv) : Prop := ∃ d a2 b6 b7 b8 b9 b10 b11 b12 b13 b14 b15 b16 b17 b18, e = lwE ns d a2 b6 b7 b8 b9 b10 b11 b12 b13 b14 b15 b16 b17 b18 ∧ d ≤ b
theorem lw_body (ns : List Int) {n : Nat} (hn : 30 ≤ n) {d : Nat} (hd : d ≤ 50000) (a2 a6 a7 a8 a9 a10 a11 a12 a13 a14 a15 a16 a17 a18 : Option PV) : ∃ e', evalPS (FN n) b_law_22 (lwE ns d a2 a6 a7 a8 a9 a10 a11 a12 a13 a14 a15 a16 a17 a18) = .ok .next e' ∧ LwI ns (d + 1000) e' := by
  obtain ⟨ys, d1, e1, hl, hP, m1⟩ := compR_inv (f := stepP (FN n) 20 .nil (.call f__law_sized (.cons (.var 0) (.cons (.var 1) (.cons (.bin .add (.int_ 1) (.call f__law_draw (.cons (.var 0) (.cons (.var 1) (.cons (.int_ 4) .nil))))) (.cons (.int_ 3) .nil)))))) (i := 20) (fun d => lwE ns d a2 a6 a7 a8 a9 a10 a11 a12 a13 a14 a15 a16 a17 a18) (fun y => ∃ f : Form, y = f.enc ∧ FormOk f) (fun j d' => d' ≤ d + 106 * j) [.int 0, .int 1, .int 2, .int 3, .int 4, .int 5, .int 6] (fun j x s hx hs => by
    have hj : j < 7 := by
      rcases Nat.lt_or_ge j 7 with h | h
      · exact h
      · rw [List.getElem?_eq_none (by simpa using h)] at hx; cases hx
    have e1 := e_draw (n := n) (by omega) ns (d := s) (by omega) (m := 4) (by decide)
    have b1 := draw_lt ns (s + 1) (m := 4) (by decide)
    obtain ⟨L, hL, hL2⟩ : ∃ L : Nat, drawF ns (s + 1) 4 = L ∧ L ≤ 3 := ⟨(drawF ns (s + 1) 4).toNat, by omega, by omega⟩
    rw [hL] at e1
    obtain ⟨f, d', e2, o1, dp, m1, m2⟩ := e_sized ns (top := 3) (by decide) (by decide) (L := L) (n := n) (d := s + 1) hL2 (by omega) (by omega)
    have hc : (1 : Int) + (L : Int) = (L : Int) + 1 := by omega
    refine ⟨f.enc, d', ⟨f, rfl, o1⟩, by (try dsimp only at hs); (try dsimp only); omega, fun w => ⟨some x, ?_⟩⟩
    simp [step_0, lwE, e1, hc, e2]) d (by simp) (by simp [lwE]) (by simp)
  obtain ⟨fs, rfl, hfs⟩ := encs_of hP
  simp [lwE] at e1
  simp at hl m1
  have hl : fs.length = 7 := by rw [encL_map] at hl; simpa using hl
  have e2 := comp_is (f := stepP (FN n) 21 .nil (.call f_deep (.cons (.var 21) .nil))) (i := 21) (e := [some (scr ns), some (town d1), a2, none, none, none, some (.lst false (encL fs)), a7, a8, a9, a10, a11, a12, a13, a14, a15, a16, a17, a18, none, none, none]) Form.enc (fun f => PV.int (f.deep : Nat)) (by simp) fs (by omega) (fun f hf w => ⟨_, by simp [step_0, e_deep (n := n) (by omega) (hfs f hf)]; rfl⟩)
  have e3 := comp_is (f := stepP (FN n) 21 .nil (.call f_size (.cons (.var 21) .nil))) (i := 21) (e := [some (scr ns), some (town d1), a2, none, none, none, some (.lst false (encL fs)), some (.lst true (fs.map fun f => PV.int (f.deep : Nat))), a8, a9, a10, a11, a12, a13, a14, a15, a16, a17, a18, none, none, none]) Form.enc (fun f => PV.int (f.size : Nat)) (by simp) fs (by omega) (fun f hf w => ⟨_, by simp [step_0, e_size (n := n) (by omega) (hfs f hf)]; rfl⟩)
  rw [← encL_map] at e2 e3
  simp at e2 e3
  obtain ⟨t, e4⟩ := e_turn (n := n) (by omega) ns (d := d1) (by omega)
  obtain ⟨m', hm', e5⟩ := e_pickI (n := n) (by omega) ns (d := d1 + 1) (by omega) (xs := [1, 3, 5, 7]) (by simp)
  obtain ⟨m, rfl, hm⟩ : ∃ m : Nat, m' = m ∧ (m = 1 ∨ m = 3 ∨ m = 5 ∨ m = 7) := ⟨m'.toNat, by simp at hm'; omega, by simp at hm'; omega⟩
  simp at e5
  have okA : ∀ f ∈ fs, f.ok := fun f hf => (hfs f hf).1
  have hin : ∀ (m : Nat) (f : Form), f ∈ fs.take m → f ∈ fs := fun m f hf => List.mem_of_mem_take hf
  have c6 := cut_to (xs := encL fs) (m := m) (by rw [encL_map]; simp; omega)
  have c7 := cut_to (xs := fs.map fun f => PV.int (f.deep : Nat)) (m := m) (by simp; omega)
  have c8 := cut_to (xs := fs.map fun f => PV.int (f.size : Nat)) (m := m) (by simp; omega)
  have t6 : (encL fs).take m = encL (fs.take m) := by rw [encL_map, encL_map, List.map_take]
  rw [t6] at c6
  obtain ⟨L1, p7, e6⟩ : ∃ L1, pInts ((fs.map fun f => PV.int (f.deep : Nat)).take m) = some L1 ∧ maxI L1 = some (deepL (fs.take m) : Int) := ⟨_, by rw [← List.map_take]; exact pInts_map _, max_deep (fs := fs.take m) (by intro z; have := congrArg List.length z; rw [List.length_take, hl] at this; simp at this; omega)⟩
  obtain ⟨L2', p8, e7⟩ : ∃ L2', pInts ((fs.map fun f => PV.int (f.size : Nat)).take m) = some L2' ∧ L2'.sum = (sizeL (fs.take m) : Int) := ⟨_, by rw [← List.map_take]; exact pInts_map _, sum_size _⟩
  have F1 : (Form.series (fs.take m) t).ok := ⟨okL_all fun f hf => okA f (hin m f hf), by rw [List.length_take]; omega⟩
  have dp1 : deepL (fs.take m) ≤ 4 := deepL_le fun f hf => (hfs f (hin m f hf)).2.1
  have sz1 : sizeL (fs.take m) ≤ (fs.take m).length * 20 := sizeL_le fun f hf => (hfs f (hin m f hf)).2.2
  have hlt : (fs.take m).length ≤ 7 := by rw [List.length_take]; omega
  have e8 := e_due (n := n) (by omega) ((Form.series (fs.take m) t).deep : Nat) ((Form.series (fs.take m) t).size : Nat)
  rw [told_due F1] at e8
  have k1 := told_ne (Form.series (fs.take m) t)
  have n1 := toldF_noO (Form.series (fs.take m) t)
  have o1 := toldF_noF (Form.series (fs.take m) t)
  have q1 : ∀ (e : PEnv), 19 < e.length → e[11]? = some (some (.tup [.str s_series, .tup (encL (fs.take m)), .str t.s])) → _ := fun e h1 h2 => e_tolds (n := n) (by omega) (f := Form.series (fs.take m) t) (by simp only [Form.deep]; omega) (by simp only [Form.size]; omega) (v := 11) h1 h2 (by decide)
  have l1 : 1 + (deepL (fs.take m) : Int) = ((Form.series (fs.take m) t).deep : Nat) := by simp only [Form.deep]; omega
  have l2 : 1 + (sizeL (fs.take m) : Int) = ((Form.series (fs.take m) t).size : Nat) := by simp only [Form.size]; omega
  have v1 : Form.enc (.series (fs.take m) t) = .tup [.str s_series, .tup (encL (fs.take m)), .str t.s] := rfl
  obtain ⟨f0, f1, f2, f3, f4, f5, f6, hfs7⟩ := seven hl
  have x0 : L2.atI (encL fs) 0 = some f0.enc := by rw [hfs7]; exact at_nat (k := 0) rfl
  have x1 : L2.atI (encL fs) 1 = some f1.enc := by rw [hfs7]; exact at_nat (k := 1) rfl
  have x2 : L2.atI (encL fs) 2 = some f2.enc := by rw [hfs7]; exact at_nat (k := 2) rfl
  have x3 : L2.atI (encL fs) 3 = some f3.enc := by rw [hfs7]; exact at_nat (k := 3) rfl
  have y2 : L2.atI (fs.map fun f => PV.int (f.deep : Nat)) 2 = some (.int (f2.deep : Nat)) := by rw [hfs7]; exact at_nat (k := 2) rfl
  have y3 : L2.atI (fs.map fun f => PV.int (f.deep : Nat)) 3 = some (.int (f3.deep : Nat)) := by rw [hfs7]; exact at_nat (k := 3) rfl
  have z2 : L2.atI (fs.map fun f => PV.int (f.size : Nat)) 2 = some (.int (f2.size : Nat)) := by rw [hfs7]; exact at_nat (k := 2) rfl
  have z3 : L2.atI (fs.map fun f => PV.int (f.size : Nat)) 3 = some (.int (f3.size : Nat)) := by rw [hfs7]; exact at_nat (k := 3) rfl
  have hf0 := hfs f0 (by rw [hfs7]; simp)
  have hf1 := hfs f1 (by rw [hfs7]; simp)
  have hf2 := hfs f2 (by rw [hfs7]; simp)
  have hf3 := hfs f3 (by rw [hfs7]; simp)
  -- a tied race
  obtain ⟨ev, hev, e9⟩ := e_pickI (n := n) (by omega) ns (d := d1 + 1 + 1) (by omega) (xs := [1, 30]) (by simp)
  simp at hev e9
  have F2 : (Form.tied f0 4 2 ev f1 t).ok := ⟨hf0.1, by decide, by decide, by omega, hf1.1, by omega⟩
  have c9 : cut (fs.map fun f => PV.int (f.deep : Nat)) none (some 2) = (fs.map fun f => PV.int (f.deep : Nat)).take 2 := cut_to (m := 2) (by simp; omega)
  have c10 : cut (fs.map fun f => PV.int (f.size : Nat)) none (some 2) = (fs.map fun f => PV.int (f.size : Nat)).take 2 := cut_to (m := 2) (by simp; omega)
  obtain ⟨L3, p9, e10⟩ : ∃ L1, pInts ((fs.map fun f => PV.int (f.deep : Nat)).take 2) = some L1 ∧ maxI L1 = some (deepL (fs.take 2) : Int) := ⟨_, by rw [← List.map_take]; exact pInts_map _, max_deep (fs := fs.take 2) (by rw [hfs7]; simp)⟩
  obtain ⟨L4, p10, e11⟩ : ∃ L2', pInts ((fs.map fun f => PV.int (f.size : Nat)).take 2) = some L2' ∧ L2'.sum = (sizeL (fs.take 2) : Int) := ⟨_, by rw [← List.map_take]; exact pInts_map _, sum_size _⟩
  have l3 : 1 + (deepL (fs.take 2) : Int) = ((Form.tied f0 4 2 ev f1 t).deep : Nat) := by rw [hfs7]; simp only [Form.deep, deepL, List.take]; omega
  have l4 : 1 + (sizeL (fs.take 2) : Int) = ((Form.tied f0 4 2 ev f1 t).size : Nat) := by rw [hfs7]; simp only [Form.size, sizeL, List.take]; omega
  have e12 := e_due (n := n) (by omega) ((Form.tied f0 4 2 ev f1 t).deep : Nat) ((Form.tied f0 4 2 ev f1 t).size : Nat)
  rw [told_due F2] at e12
  have k2 := told_ne (Form.tied f0 4 2 ev f1 t)
  have n2 := toldF_noO (Form.tied f0 4 2 ev f1 t)
  have o2 := toldF_noF (Form.tied f0 4 2 ev f1 t)
  have q2 : ∀ (e : PEnv), 19 < e.length → e[13]? = some (some (.tup [.str s_tied, f0.enc, .int 4, .int 2, .int ev, f1.enc, .str t.s])) → _ := fun e h1 h2 => e_tolds (n := n) (by omega) (f := Form.tied f0 4 2 ev f1 t) (by simp only [Form.deep]; have := hf0.2.1; have := hf1.2.1; omega) (by simp only [Form.size]; have := hf0.2.2; have := hf1.2.2; omega) (v := 13) h1 h2 (by decide)
  -- a race
  obtain ⟨go, hgo, e13⟩ := e_pickI (n := n) (by omega) ns (d := d1 + 1 + 1 + 1) (by omega) (xs := [0, 1, 30, 31]) (by simp)
  obtain ⟨le, hle, e14⟩ := e_pickI (n := n) (by omega) ns (d := d1 + 1 + 1 + 1 + 1) (by omega) (xs := [0, 1, 3, 4]) (by simp)
  simp at hgo hle e13 e14
  have e15 := e_due (n := n) (by omega) (1 + f2.deep : Int) (1 + f2.size : Int)
  have e16 := e_due (n := n) (by omega) 5 1
  have r1 : Form.ok (.race f2 go le t) → dueL (1 + f2.deep : Int) (1 + f2.size : Int) = toldF (.race f2 go le t) := fun h => by
    rw [← told_due h]; simp [Form.deep, Form.size]
  have r2 : ¬ Form.ok (.race f2 go le t) → dueL 5 1 = toldF (.race f2 go le t) := told_not
  have k3 := told_ne (.race f2 go le t)
  have n3 := toldF_noO (.race f2 go le t)
  have o3 := toldF_noF (.race f2 go le t)
  have q3 : ∀ (e : PEnv), 19 < e.length → e[16]? = some (some (.tup [.str s_race, f2.enc, .int go, .int le, .str t.s])) → _ := fun e h1 h2 => e_tolds (n := n) (by omega) (f := Form.race f2 go le t) (by simp only [Form.deep]; have := hf2.2.1; omega) (by simp only [Form.size]; have := hf2.2.2; omega) (v := 16) h1 h2 (by decide)
  -- a tied race of points
  obtain ⟨ew, hew, e17⟩ := e_pickI (n := n) (by omega) ns (d := d1 + 1 + 1 + 1 + 1 + 1) (by omega) (xs := [0, 1, 4, 5, 30, 31]) (by simp)
  obtain ⟨lf, hlf, e18⟩ := e_pickI (n := n) (by omega) ns (d := d1 + 1 + 1 + 1 + 1 + 1 + 1) (by omega) (xs := [1, 2]) (by simp)
  simp at hew hlf e17 e18
  have e19 := e_due (n := n) (by omega) (1 + f3.deep : Int) (2 + f3.size : Int)
  have s1 : Form.ok (.tied .point 5 lf ew f3 t) → dueL (1 + f3.deep : Int) (2 + f3.size : Int) = toldF (.tied .point 5 lf ew f3 t) := fun h => by
    have dp := deep_pos f3
    rw [← told_due h]
    simp only [Form.deep, Form.size]
    congr 1 <;> omega
  have s2 : ¬ Form.ok (.tied .point 5 lf ew f3 t) → dueL 5 1 = toldF (.tied .point 5 lf ew f3 t) := told_not
  have k4 := told_ne (.tied .point 5 lf ew f3 t)
  have n4 := toldF_noO (.tied .point 5 lf ew f3 t)
  have o4 := toldF_noF (.tied .point 5 lf ew f3 t)
  have q4 : ∀ (e : PEnv), 19 < e.length → e[13]? = some (some (.tup [.str s_tied, .tup [.str s_point], .int 5, .int lf, .int ew, f3.enc, .str t.s])) → _ := fun e h1 h2 => e_tolds (n := n) (by omega) (f := .tied .point 5 lf ew f3 t) (by simp only [Form.deep]; have := hf3.2.1; omega) (by simp only [Form.size]; have := hf3.2.2; omega) (v := 13) h1 h2 (by decide)
  have tk : Form.ok (.tied .point 5 lf ew f3 t) ↔ (1 ≤ ew ∧ ew ≤ 30 ∧ (lf = 2 ∨ ew < 5)) :=
    ⟨fun h => ⟨h.2.2.2.1.1, h.2.2.2.1.2, by have := h.2.2.2.2.2; omega⟩, fun h => ⟨trivial, by decide, by omega, ⟨h.1, h.2.1⟩, hf3.1, by omega⟩⟩
  have w19 : ∀ e : PEnv, e[17]? = some (some (.int ew)) → e[15]? = some (some (.int lf)) → evalPS (FN n) w_law_19 e = .ok .next (e.set 18 (some (.bool (decide (1 ≤ ew ∧ ew ≤ 30 ∧ (lf = 2 ∨ ew < 5)))))) := fun e h1 h2 => by
    by_cases g1 : 1 ≤ ew
    · by_cases g2 : ew ≤ 30
      · by_cases g3 : lf = 2
        · simp [w_law_19, h1, h2, g1, g2, g3]
        · simp [w_law_19, h1, h2, g1, g2, g3]
      · simp [w_law_19, h1, h2, g1, g2]
    · simp [w_law_19, h1, h2, g1]
  have w20 : ∀ e : PEnv, e[18]? = some (some (.bool (decide (1 ≤ ew ∧ ew ≤ 30 ∧ (lf = 2 ∨ ew < 5))))) → e[7]? = some (some (.lst true (fs.map fun f => PV.int (f.deep : Nat)))) → e[8]? = some (some (.lst true (fs.map fun f => PV.int (f.size : Nat)))) → evalPS (FN n) w_law_20 e = .ok .next (e.set 12 (some (.lst true (toldF (.tied .point 5 lf ew f3 t))))) := fun e h1 h2 h3 => by
    by_cases h : Form.ok (.tied .point 5 lf ew f3 t)
    · rw [decide_eq_true (tk.mp h)] at h1
      have e19' := e19
      rw [s1 h] at e19'
      simp [w_law_20, h1, h2, h3, y3, z3, e19', n4, o4]
    · rw [decide_eq_false (fun z => h (tk.mpr z))] at h1
      have e16' := e16
      rw [s2 h] at e16'
      simp [w_law_20, h1, h2, h3, e16', n4, o4]
  refine ⟨?_, ?_, ?_⟩
  rotate_left
  · refine (seq_ok (e1 := ?_) (by simp [w_law_0, lwE, r7, e1]; rfl)).trans ?_
    refine (seq_ok (e1 := ?_) (by simp [w_law_1, e2]; rfl)).trans ?_
    refine (seq_ok (e1 := ?_) (by simp [w_law_2, e3]; rfl)).trans ?_
    refine (seq_ok (e1 := ?_) (by simp [w_law_3, e4]; rfl)).trans ?_
    refine (seq_ok (e1 := ?_) (by simp [w_law_4, e5]; rfl)).trans ?_
    refine (seq_ok (e1 := ?_) (by simp [w_law_5, c6]; rfl)).trans ?_
    refine (seq_ok (e1 := ?_) (by simp [w_law_6, c7, c8, p7, p8, e6, e7, l1, l2, e8, o1, n1]; rfl)).trans ?_
    refine (seq_ok (e1 := ?_) (by simp [w_law_7, range2, q1, k1, n1, o1]; rfl)).trans ?_
    refine (seq_ok (e1 := ?_) (by simp [w_law_8, x0, x1, e9]; rfl)).trans ?_
    refine (seq_ok (e1 := ?_) (by simp [w_law_9, c9, c10, p9, p10, e10, e11, l3, l4, e12, o2, n2]; rfl)).trans ?_
    refine (seq_ok (e1 := ?_) (by simp [w_law_10, range2, q2, k2, n2, o2]; rfl)).trans ?_
    refine (seq_ok (e1 := ?_) (by simp [w_law_11, e13]; rfl)).trans ?_
    refine (seq_ok (e1 := ?_) (by simp [w_law_12, e14]; rfl)).trans ?_
    refine (seq_ok (e1 := ?_) (by simp [w_law_13, x2]; rfl)).trans ?_
    refine (seq_ok (e1 := ?_) (by
      by_cases h : Form.ok (.race f2 go le t)
      · have h' := h.2
        have e15' := e15
        rw [r1 h] at e15'
        simp [w_law_14, h'.1.1, h'.1.2, h'.2.1, h'.2.2, y2, z2, e15', n3, o3]
        rfl
      · have e16' := e16
        rw [r2 h] at e16'
        by_cases g1 : 1 ≤ go
        · by_cases g2 : go ≤ 30
          · by_cases g3 : 1 ≤ le
            · by_cases g4 : le ≤ 3
              · exact absurd ⟨hf2.1, ⟨g1, g2⟩, g3, g4⟩ h
              · simp [w_law_14, g1, g2, g3, g4, e16', n3, o3]
                try rfl
            · simp [w_law_14, g1, g2, g3, e16', n3, o3]
              try rfl
          · simp [w_law_14, g1, g2, e16', n3, o3]
            try rfl
        · simp [w_law_14, g1, e16', n3, o3]
          try rfl)).trans ?_
    refine (seq_ok (e1 := ?_) (by simp [w_law_15, range2, q3, k3, n3, o3]; rfl)).trans ?_
    refine (seq_ok (e1 := ?_) (by simp [w_law_16, e17]; rfl)).trans ?_
    refine (seq_ok (e1 := ?_) (by simp [w_law_17, e18]; rfl)).trans ?_
    refine (seq_ok (e1 := ?_) (by simp [w_law_18, x3]; rfl)).trans ?_
    refine (seq_ok (w19 _ rfl rfl)).trans ?_
    refine (seq_ok (w20 _ rfl rfl rfl)).trans ?_
    refine (seq_ok (e1 := ?_) (by simp [w_law_21, range2, q4, k4, n4, o4]; rfl)).trans ?_
    exact ps_skip
  · exact ⟨_, _, _, _, _, _, _, _, _, _, _, _, _, _, _, rfl, by omega⟩

/-! ### the law -/
theorem r3 : pItems .range (.tup [.int 3]) = some [.int 0, .int 1, .int 2] := it_range (n := 3) (by decide)
def fWide : Form := .series (List.replicate 7 (.race .point 1 1 .on)) .on
def fThin : Form := .race (.race (.race .point 1 1 .on) 1 1 .on) 1 1 .on
def fOver : Form := .tied .point 2 2 1 (.race .point 1 1 .on) .on
theorem lw_for (ns : List Int) {n : Nat} (hn : 30 ≤ n) : ∃ e, evalPS (FN n) w_law_24 (lwE ns 0 none none none none none none none none none none none none none none) = .ok .next e ∧ LwI ns 3000 e := by
  obtain ⟨e, h1, h2⟩ := for_inv (is := [2]) (b := runPS (FN n) b_law_22) (fun j e => LwI ns (1000 * j) e) [.int 0, .int 1, .int 2] (fun j x e hx hI => by
    have hj : j < 3 := by
      rcases Nat.lt_or_ge j 3 with h | h
      · exact h
      · rw [List.getElem?_eq_none (by simpa using h)] at hx; cases hx
    obtain ⟨d, a2, b6, b7, b8, b9, b10, b11, b12, b13, b14, b15, b16, b17, b18, rfl, hd⟩ := hI
    obtain ⟨e', h1, h2⟩ := lw_body ns hn (d := d) (by omega) (some x) b6 b7 b8 b9 b10 b11 b12 b13 b14 b15 b16 b17 b18
    refine ⟨_, e', by simp [pbindTo, lwE], h1, ?_⟩
    obtain ⟨d', c2, c6, c7, c8, c9, c10, c11, c12, c13, c14, c15, c16, c17, c18, h3, hd'⟩ := h2
    exact ⟨d', c2, c6, c7, c8, c9, c10, c11, c12, c13, c14, c15, c16, c17, c18, h3, by omega⟩) (lwE ns 0 none none none none none none none none none none none none none none) ⟨0, none, none, none, none, none, none, none, none, none, none, none, none, none, none, rfl, by omega⟩
  exact ⟨e, by simp [w_law_24, r3]; exact h1, h2⟩
theorem ok_wide : FormOk fWide := by
  refine ⟨?_, ?_, ?_⟩ <;> simp [fWide, List.replicate, Form.ok, okL, Form.deep, deepL, Form.size, sizeL]
theorem ok_thin : FormOk fThin := by
  refine ⟨?_, ?_, ?_⟩ <;> simp [fThin, Form.ok, Form.deep, Form.size]
theorem law_true (ns : List Int) (hl : ns.length ≤ 63) : cl 60 f_law [.ro (ns.map PV.int)] = .ok (.bool true) [] := by
  rw [cz_law (by omega)]
  obtain ⟨e, h1, d, a2, b6, b7, b8, b9, b10, b11, b12, b13, b14, b15, b16, b17, b18, rfl, hd⟩ := lw_for ns (n := 60 - 1) (by omega)
  have k1 := e_deep (n := 60 - 1) (by omega) ok_wide
  have k2 := e_size (n := 60 - 1) (by omega) ok_wide
  have k3 := e_deep (n := 60 - 1) (by omega) ok_thin
  have k4 := e_size (n := 60 - 1) (by omega) ok_thin
  have k5 : ∀ {k : Nat}, k < 2 → _ := fun {k} => e_told (n := 60 - 1) (by omega) (f := .series [fOver, fOver, fOver, fOver, fOver] .on) (by simp [fOver, Form.deep, deepL]) (by simp [fOver, Form.size, sizeL]) (k := k)
  have k6 : toldF (.series [fOver, fOver, fOver, fOver, fOver] .on) = refused2 := by
    unfold toldF
    rw [if_neg]
    intro z
    have := ((isForm_iff _).mp z).2.2
    simp [fOver, Form.size, sizeL] at this
  rw [k6] at k5
  have k7 := k5 (k := 0) (by decide)
  have k8 := k5 (k := 1) (by decide)
  simp [fWide, fThin, fOver, Form.enc, encL, List.replicate, Form.deep, Form.size, deepL, sizeL, Turn.s, refused2] at k1 k2 k3 k4 k7 k8
  have m7 : ∀ x : PV, pbin .mul (.tup [x]) (.int 7) = some (.tup [x, x, x, x, x, x, x]) := fun x => by
    show pneed _ _ = _
    exact pneed_pos ⟨by simp, by decide, by decide, by simp⟩
  have m5 : ∀ x : PV, pbin .mul (.tup [x]) (.int 5) = some (.tup [x, x, x, x, x]) := fun x => by
    show pneed _ _ = _
    exact pneed_pos ⟨by simp, by decide, by decide, by simp⟩
  have m2 : pbin .mul (.lst true [.tup [.str s_refused, .str s_form]]) (.int 2) = some (.lst true refused2) := by
    show pneed _ _ = _
    exact pneed_pos ⟨by decide, by decide, line_le (by simp)⟩
  have hs2 : PyData.strOk s_refused = true := by decide +kernel
  have hs3 : PyData.strOk s_form = true := by decide +kernel
  have q1 : pcmp .ne (.lst true refused2) (.lst true refused2) = some (.bool false) := ne_same (d := .list [.tuple [.str s_refused, .str s_form], .tuple [.str s_refused, .str s_form]]) rfl rfl (by simp [SeqAt.shaped, PyData.canLay0, PyData.canLayAll0, PyData.depth, PyData.depthAll, hs2, hs3]) rfl
  have q2 : pcmp .eq (.lst true [.int 3, .int 15, .int 4, .int 4]) (.lst true [.int 3, .int 15, .int 4, .int 4]) = some (.bool true) := eq_same (d := .list [.int 3, .int 15, .int 4, .int 4]) rfl rfl (by simp [SeqAt.shaped, PyData.canLay0, PyData.canLayAll0, PyData.depth, PyData.depthAll]) rfl
  have w28 : ∀ e : PEnv, 19 < e.length → e[5]? = some (some fOver.enc) → e[19]? = some none → evalPS (FN (60 - 1)) w_law_28 e = .ok .next (e.set 6 (some (.lst true refused2))) := fun e h1 h2 h3 => by
    have h := comp_is (f := stepP (FN (60 - 1)) 19 .nil (.call f__law_told (.cons (.var 19) (.cons (.tup (.cons (.str_ s_series) (.cons (.bin .mul (.tup (.cons (.var 5) .nil)) (.int_ 5)) (.cons (.str_ s_on) .nil)))) .nil)))) (i := 19) (e := e) (fun k : Nat => PV.int k) (fun k => .tup [.str s_refused, .str s_form]) h1 [0, 1] (by simp) (fun k hk w => ⟨some (.int k), by
      have l1 : (e.set 19 (some (PV.int k)))[5]? = some (some fOver.enc) := by rw [List.getElem?_set_ne (by decide)]; exact h2
      have l2 : (e.set 19 (some (PV.int k)))[19]? = some (some (.int k)) := by simp [h1]
      simp only [step_0, List.set_set]
      simp [fOver, Form.enc, Turn.s] at l1
      rcases (show k = 0 ∨ k = 1 by simpa using hk) with rfl | rfl
      · simp at l1 l2
        simp [l1, l2, m5, k7]
      · simp at l1 l2
        simp [l1, l2, m5, k8]⟩)
    have h4 : e.set 19 none = e := by
      have := List.set_getElem_self h1
      rw [List.getElem?_eq_getElem h1] at h3
      injection h3 with h3
      rwa [h3] at this
    simp [h3, h4] at h
    simp [w_law_28, range2, h, refused2]
  have key : ∃ E, evalPS (FN (60 - 1)) c_law.body [some (.ro (ns.map PV.int)), none, none, none, none, none, none, none, none, none, none, none, none, none, none, none, none, none, none, none, none, none] = .ok (.ret (.bool true)) E := by
    refine ⟨?_, ?_⟩
    rotate_left
    · refine (seq_ok (e1 := lwE ns 0 none none none none none none none none none none none none none none) (by simp [w_law_23]; rfl)).trans ?_
      refine (seq_ok h1).trans ?_
      refine (seq_ok (e1 := ?_) (by simp [w_law_25, lwE, m7]; rfl)).trans ?_
      refine (seq_ok (e1 := ?_) (by simp [w_law_26]; rfl)).trans ?_
      refine (seq_ok (e1 := ?_) (by simp [w_law_27]; rfl)).trans ?_
      refine (seq_ok (w28 _ (by simp) rfl rfl)).trans ?_
      refine (seq_ok (e1 := ?_) (by simp [w_law_29, m2, q1]; rfl)).trans ?_
      simp [w_law_30, k1, k2, k3, k4, q2]
      rfl
  obtain ⟨E, key⟩ := key
  rw [key]
  rfl

end Ev
theorem PySem.Challenge.cw_setpoints_k03_whole_measures_holds : PySem.Challenge.rw_setpoints_k03_whole_measures.Holds := by
  exact Lw.final fun ns hl => Ev.law_pure (fun x v h => Ev.hgp.at_ h) (Ev.wf_all Ev.wfT) rfl (Ev.law_true ns hl)
