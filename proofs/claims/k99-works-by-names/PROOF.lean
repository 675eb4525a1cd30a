import PyProof.Rows.All
import Wide.All
import OpenK.AllK
import Wide.FinOn
import KE.KStateDown
import HandS.ForMost
import HandS.Exc
import HandS.Defaults
import HandS.More
import HandS.Nested
import HandS.HeadHook4
import HandS.HeadWalk
import HandS.Head0
import HandS.Head1
import HandS.Head2
import PySem.Challenge.RW_kernelpapers_k99_works_by_names
import HandS.IsInst
import HandS.OwnEq
import HandS.CallLocal
import HandS.NoneIn
import HandS.Conv
import HandS.Zip
import HandS.Wide
import HandS.TupAny
import HandS.TryMany
import KE.GoesNew
import KE.GoesEnum
import PyProof.EnumMake
import KE.KDictZip
import HandS.SortKw
import HandS.MakeKw
import HandS.MakeKwOnly
import HandS.Codes
import PyProof.P3Eq
import HandS.Style
set_option Elab.async false
set_option linter.all false
set_option maxRecDepth 100000
set_option maxHeartbeats 0
section
/-! A head whose facts are looked up at few addresses, in equations of their own. -/
namespace Kh
open PySem PySem.Spec PyProof.Rows L2
def refOf : Option (Option Value) → List Addr
  | some (some (.ref a)) => [a]
  | _ => []
def gAt (g : Addr → Option Obj) (x : Str) : List Addr := refOf (PySem.W.nsIn (He.frG g [mainGlobals]) mainGlobals x)
def fnAs (g : Addr → Option Obj) (f : Addr) : List Addr := match g f with
  | some ⟨_, _, .func fd, _⟩ => f :: (He.refV fd.code ++ He.refV fd.defaults)
  | _ => [f]
def clsAs (g : Addr → Option Obj) (ms : List Str) (C : Addr) : List Addr := match g C with
  | some ⟨_, _, .cls cd, _⟩ => C :: cd.ns :: ms.flatMap fun m => (refOf (PySem.W.nsIn (He.frG g [cd.ns]) cd.ns m)).flatMap (fnAs g)
  | _ => [C]
/-- the addresses that are looked at: of defs, of classes with their methods, of tables -/
def asK (gFn : List Str) (gCls : List (Str × List Str)) (gTab : List Str) (g : Addr → Option Obj) : List Addr :=
  mainGlobals :: ((gFn.flatMap fun x => (gAt g x).flatMap (fnAs g)) ++ ((gCls.flatMap fun q => (gAt g q.1).flatMap (clsAs g q.2)) ++ gTab.flatMap (gAt g)))
section
variable (as : (Addr → Option Obj) → List Addr) (fa : List He.Fa) (fn : List He.DefD) (ts : List He.Tab) (tf : List He.Defn) (ex : PySem.W.Frag → Bool)
def obsZ (g : Addr → Option Obj) : He.AlX := (He.obsT fa fn ts (He.frT g (as g)), ex (He.frT g (as g)) && He.tabsB g tf (He.frT g (as g)))
theorem saysZ_of {w : World} {h : Heap} (e : obsZ as fa fn ts tf ex h.get? = He.valX fn ts w) : He.SaysX fa fn ts tf ex w h (He.frT h.get? (as h.get?)) := by
  have e1 : He.obsT fa fn ts (He.frT h.get? (as h.get?)) = He.valT fn ts w := congrArg (fun z : He.AlX => z.1) e
  have e2 : (ex (He.frT h.get? (as h.get?)) && He.tabsB h.get? tf (He.frT h.get? (as h.get?))) = true := congrArg (fun z : He.AlX => z.2) e
  obtain ⟨h1, h2⟩ := He.ba e2
  have key : ∀ p ∈ tf, PySem.W.codeHdIn (He.frT h.get? (as h.get?)) (He.cT (He.frT h.get? (as h.get?)) p).1 (He.cT (He.frT h.get? (as h.get?)) p).2 = true ∧ ∃ o, h.get? (He.cT (He.frT h.get? (as h.get?)) p).2 = some o ∧ He.emptyTab o = true := fun p hp => by
    obtain ⟨h3, h4⟩ := He.ba (List.all_eq_true.mp h2 p hp)
    refine ⟨h3, ?_⟩
    cases q : h.get? (He.cT (He.frT h.get? (as h.get?)) p).2 with
    | none =>
      rw [q] at h4
      cases h4
    | some o =>
      rw [q] at h4
      exact ⟨o, rfl, h4⟩
  exact ⟨e1, h1, fun p hp => (key p hp).1, fun p hp => by
    obtain ⟨_, o, q, z⟩ := key p hp
    exact He.frT_none q z, fun p hp => by
    obtain ⟨_, o, q, z⟩ := key p hp
    rw [q, He.emptyTab_eq z]⟩
def hookZ : PySem.W.Hook where
  α := He.AlX
  obs := fun s => obsZ as fa fn ts tf ex s.heap.get?
  val := fun w => He.valX fn ts w
  says := fun w h => ∃ K : PySem.W.Frag, K.In h ∧ He.SaysX fa fn ts tf ex w h K
  of := fun _ _ e => ⟨_, He.frT_in, saysZ_of as fa fn ts tf ex e⟩
  keeps := fun _ _ _ ⟨K, hK, c⟩ k => ⟨K, PySem.W.Frag.In.keeps hK k, ⟨c.t, c.more, c.hd, c.out, fun p hp => k _ _ (c.empty p hp)⟩⟩
def obZ (s : PySem.W.SharedT) : He.AlX := obsZ as fa fn ts tf ex (HandSHeadRun.getT s)
theorem obZ_eq (s : PySem.W.SharedT) : obZ as fa fn ts tf ex s = (hookZ as fa fn ts tf ex).obs s.abs := by
  have e : HandSHeadRun.getT s = s.abs.heap.get? := funext (HandSHeadRun.getT_eq s)
  show obsZ as fa fn ts tf ex (HandSHeadRun.getT s) = obsZ as fa fn ts tf ex s.abs.heap.get?
  rw [e]
end
/-! ### the run's equation by parts -/
theorem both {α β γ : Type} {o : Option α} {f : α → β} {b : β} {g : α → γ} {c : γ} (h1 : o.map f = some b) (h2 : o.map g = some c) : ∃ a, o = some a ∧ f a = b ∧ g a = c := by
  cases o with
  | none => cases h1
  | some a => exact ⟨a, rfl, Option.some.inj h1, Option.some.inj h2⟩
end Kh
namespace Kh
open PySem PySem.W PySem.Calls PyProof.Rows
noncomputable abbrev endW (r : OpenRow) (M : Nat) (w : World) (os : OsState) : Option SharedT := HandSHeadRun.endF (HandSHeadRun.stepQ (HandSHeadRun.denQ HandSHeadRun.tabQ) r.prog w) M r.prog w os
def Seen (r : OpenRow) (q : Program) (M : Nat) (loose : List PySem.Str) (w : World) : Prop := ∀ os : OsState,
  (endW r M w os).map (fun s => (HandSHeadRun.looksF r.prog (boot_heap w.params) s.abs, HandSHeadRun.seenQ q loose (importedModules r.prog.main.body) (fun s => xlAt q [] s && recOk r.toRowW.records s) s.abs)) = some (true, openGood q loose)
def Facts (r : OpenRow) (H : Hook) (ob : SharedT → H.α) (M : Nat) (w : World) : Prop := ∀ os : OsState, (endW r M w os).map ob = some (H.val w)
theorem run_of {r : OpenRow} {q : Program} {H : Hook} {ob : SharedT → H.α} {M : Nat} {loose : List PySem.Str} {w : World} (h1 : Seen r q M loose w) (h2 : Facts r H ob M w) : HandSHeadRun.RunEq r q H ob M loose w := by
  intro os
  obtain ⟨s, e, e1, e2⟩ := both (h1 os) (h2 os)
  have e' : HandSHeadRun.endF (HandSHeadRun.stepQ (HandSHeadRun.denQ HandSHeadRun.tabQ) r.prog w) M r.prog w os = some s := e
  obtain ⟨e3, e4⟩ := Prod.mk.inj e1
  rw [e']
  show some (_, _, _) = some (_, _, _)
  rw [e3, e4, e2]
end Kh
end
section
namespace Kx
open PySem PySem.Spec PyProof.Rows L2
def top (i : Nat) : Stmt := PySem.Challenge.pw_kernelpapers_k99_works_by_names.main.body.getD i (.Pass ⟨0, 0, 0, 0⟩)

abbrev s_is_whole : Stmt := top 25
def d_is_whole : He.DefD := ⟨("is_whole", none), "is_whole", "is_whole", defArgs s_is_whole, defBody s_is_whole, defScope s_is_whole, [], []⟩
abbrev s_is_number : Stmt := top 26
def d_is_number : He.DefD := ⟨("is_number", none), "is_number", "is_number", defArgs s_is_number, defBody s_is_number, defScope s_is_number, [], []⟩
abbrev s_is_name : Stmt := top 27
def d_is_name : He.DefD := ⟨("is_name", none), "is_name", "is_name", defArgs s_is_name, defBody s_is_name, defScope s_is_name, [], []⟩
abbrev s_has_form_terms : Stmt := top 28
def d_has_form_terms : He.DefD := ⟨("has_form_terms", none), "has_form", "has_form", defArgs s_has_form_terms, defBody s_has_form_terms, defScope s_has_form_terms, [], []⟩
abbrev s_is_term : Stmt := top 30
def d_is_term : He.DefD := ⟨("is_term", none), "is_term", "is_term", defArgs s_is_term, defBody s_is_term, defScope s_is_term, [], []⟩
abbrev s_need_term : Stmt := top 32
def d_need_term : He.DefD := ⟨("need_term", none), "need_term", "need_term", defArgs s_need_term, defBody s_need_term, defScope s_need_term, [], []⟩
abbrev s_inner : Stmt := top 33
def d_inner : He.DefD := ⟨("inner", none), "inner", "inner", defArgs s_inner, defBody s_inner, defScope s_inner, [], []⟩
abbrev s_raise_in : Stmt := top 40
def d_raise_in : He.DefD := ⟨("raise_in", none), "raise_in", "raise_in", defArgs s_raise_in, defBody s_raise_in, defScope s_raise_in, [], []⟩
abbrev s_is_hold_row : Stmt := top 53
def d_is_hold_row : He.DefD := ⟨("is_hold_row", none), "is_hold_row", "is_hold_row", defArgs s_is_hold_row, defBody s_is_hold_row, defScope s_is_hold_row, [], []⟩
abbrev s_is_row : Stmt := top 55
def d_is_row : He.DefD := ⟨("is_row", none), "is_row", "is_row", defArgs s_is_row, defBody s_is_row, defScope s_is_row, [], []⟩
abbrev s_need_rows : Stmt := top 71
def d_need_rows : He.DefD := ⟨("need_rows", none), "need_rows", "need_rows", defArgs s_need_rows, defBody s_need_rows, defScope s_need_rows, [], []⟩
abbrev s_Ground_init : Stmt := inClass (top 72) 0
def d_Ground_init : He.DefD := ⟨("Ground", some "__init__"), "__init__", "Ground.__init__", defArgs s_Ground_init, defBody s_Ground_init, defScope s_Ground_init, [.non], []⟩
abbrev s_Ground_rows : Stmt := inClass (top 72) 1
def d_Ground_rows : He.DefD := ⟨("Ground", some "rows"), "rows", "Ground.rows", defArgs s_Ground_rows, defBody s_Ground_rows, defScope s_Ground_rows, [], []⟩
abbrev s_Ground_has : Stmt := inClass (top 72) 3
def d_Ground_has : He.DefD := ⟨("Ground", some "has"), "has", "Ground.has", defArgs s_Ground_has, defBody s_Ground_has, defScope s_Ground_has, [], []⟩
abbrev s_Ground_told : Stmt := inClass (top 72) 4
def d_Ground_told : He.DefD := ⟨("Ground", some "told"), "told", "Ground.told", defArgs s_Ground_told, defBody s_Ground_told, defScope s_Ground_told, [], []⟩
abbrev s_Ground_with_row : Stmt := inClass (top 72) 5
def d_Ground_with_row : He.DefD := ⟨("Ground", some "with_row"), "with_row", "Ground.with_row", defArgs s_Ground_with_row, defBody s_Ground_with_row, defScope s_Ground_with_row, [], []⟩
abbrev s_Ground_eq : Stmt := inClass (top 72) 7
def d_Ground_eq : He.DefD := ⟨("Ground", some "__eq__"), "__eq__", "Ground.__eq__", defArgs s_Ground_eq, defBody s_Ground_eq, defScope s_Ground_eq, [], []⟩
abbrev s_need_ground : Stmt := top 73
def d_need_ground : He.DefD := ⟨("need_ground", none), "need_ground", "need_ground", defArgs s_need_ground, defBody s_need_ground, defScope s_need_ground, [], []⟩
abbrev s_row_of : Stmt := top 76
def d_row_of : He.DefD := ⟨("row_of", none), "row_of", "row_of", defArgs s_row_of, defBody s_row_of, defScope s_row_of, [], []⟩
abbrev s_gone : Stmt := top 80
def d_gone : He.DefD := ⟨("gone", none), "gone", "gone", defArgs s_gone, defBody s_gone, defScope s_gone, [], []⟩
abbrev s_first_step : Stmt := top 82
def d_first_step : He.DefD := ⟨("first_step", none), "first_step", "first_step", defArgs s_first_step, defBody s_first_step, defScope s_first_step, [], []⟩
abbrev s_gone_way : Stmt := top 83
def d_gone_way : He.DefD := ⟨("gone_way", none), "gone_way", "gone_way", defArgs s_gone_way, defBody s_gone_way, defScope s_gone_way, [], []⟩
abbrev s_work_out : Stmt := top 84
def d_work_out : He.DefD := ⟨("work_out", none), "work_out", "work_out", defArgs s_work_out, defBody s_work_out, defScope s_work_out, [], []⟩
abbrev s_need_room : Stmt := top 87
def d_need_room : He.DefD := ⟨("need_room", none), "need_room", "need_room", defArgs s_need_room, defBody s_need_room, defScope s_need_room, [], []⟩
abbrev s_row_for : Stmt := top 88
def d_row_for : He.DefD := ⟨("row_for", none), "row_for", "row_for", defArgs s_row_for, defBody s_row_for, defScope s_row_for, [], []⟩
abbrev s_Looker_init : Stmt := inClass (top 89) 0
def d_Looker_init : He.DefD := ⟨("Looker", some "__init__"), "__init__", "Looker.__init__", defArgs s_Looker_init, defBody s_Looker_init, defScope s_Looker_init, [], []⟩
abbrev s_Looker_height_of : Stmt := inClass (top 89) 1
def d_Looker_height_of : He.DefD := ⟨("Looker", some "height_of"), "height_of", "Looker.height_of", defArgs s_Looker_height_of, defBody s_Looker_height_of, defScope s_Looker_height_of, [], []⟩
abbrev s_Looker_look : Stmt := inClass (top 89) 2
def d_Looker_look : He.DefD := ⟨("Looker", some "look"), "look", "Looker.look", defArgs s_Looker_look, defBody s_Looker_look, defScope s_Looker_look, [], []⟩
abbrev s_look_at : Stmt := top 90
def d_look_at : He.DefD := ⟨("look_at", none), "look_at", "look_at", defArgs s_look_at, defBody s_look_at, defScope s_look_at, [], []⟩
abbrev s_look_kind : Stmt := top 91
def d_look_kind : He.DefD := ⟨("look_kind", none), "look_kind", "look_kind", defArgs s_look_kind, defBody s_look_kind, defScope s_look_kind, [], []⟩
abbrev s_look_all : Stmt := top 92
def d_look_all : He.DefD := ⟨("look_all", none), "look_all", "look_all", defArgs s_look_all, defBody s_look_all, defScope s_look_all, [], []⟩
abbrev s_look_name : Stmt := top 95
def d_look_name : He.DefD := ⟨("look_name", none), "look_name", "look_name", defArgs s_look_name, defBody s_look_name, defScope s_look_name, [], []⟩
abbrev s_told_saying : Stmt := top 104
def d_told_saying : He.DefD := ⟨("told_saying", none), "told_saying", "told_saying", defArgs s_told_saying, defBody s_told_saying, defScope s_told_saying, [], []⟩
abbrev s_kind_fault : Stmt := top 105
def d_kind_fault : He.DefD := ⟨("kind_fault", none), "kind_fault", "kind_fault", defArgs s_kind_fault, defBody s_kind_fault, defScope s_kind_fault, [], []⟩
abbrev s_room_fault : Stmt := top 107
def d_room_fault : He.DefD := ⟨("room_fault", none), "room_fault", "room_fault", defArgs s_room_fault, defBody s_room_fault, defScope s_room_fault, [], []⟩
abbrev s_row_fault : Stmt := top 110
def d_row_fault : He.DefD := ⟨("row_fault", none), "row_fault", "row_fault", defArgs s_row_fault, defBody s_row_fault, defScope s_row_fault, [], []⟩
abbrev s_ground_fault : Stmt := top 111
def d_ground_fault : He.DefD := ⟨("ground_fault", none), "ground_fault", "ground_fault", defArgs s_ground_fault, defBody s_ground_fault, defScope s_ground_fault, [], []⟩
abbrev s_has_form_deeds : Stmt := top 116
def d_has_form_deeds : He.DefD := ⟨("has_form_deeds", none), "has_form", "has_form", defArgs s_has_form_deeds, defBody s_has_form_deeds, defScope s_has_form_deeds, [], []⟩
abbrev s_is_deed : Stmt := top 118
def d_is_deed : He.DefD := ⟨("is_deed", none), "is_deed", "is_deed", defArgs s_is_deed, defBody s_is_deed, defScope s_is_deed, [], []⟩
abbrev s_Spot_init : Stmt := inClass (top 119) 0
def d_Spot_init : He.DefD := ⟨("Spot", some "__init__"), "__init__", "Spot.__init__", defArgs s_Spot_init, defBody s_Spot_init, defScope s_Spot_init, [], []⟩
abbrev s_Spot_saying : Stmt := inClass (top 119) 1
def d_Spot_saying : He.DefD := ⟨("Spot", some "saying"), "saying", "Spot.saying", defArgs s_Spot_saying, defBody s_Spot_saying, defScope s_Spot_saying, [], []⟩
abbrev s_Spot_need : Stmt := inClass (top 119) 2
def d_Spot_need : He.DefD := ⟨("Spot", some "need"), "need", "Spot.need", defArgs s_Spot_need, defBody s_Spot_need, defScope s_Spot_need, [], []⟩
abbrev s_Spot_left : Stmt := inClass (top 119) 4
def d_Spot_left : He.DefD := ⟨("Spot", some "left"), "left", "Spot.left", defArgs s_Spot_left, defBody s_Spot_left, defScope s_Spot_left, [], []⟩
abbrev s_done_bring : Stmt := top 120
def d_done_bring : He.DefD := ⟨("done_bring", none), "done_bring", "done_bring", defArgs s_done_bring, defBody s_done_bring, defScope s_done_bring, [], []⟩
abbrev s_done_give : Stmt := top 121
def d_done_give : He.DefD := ⟨("done_give", none), "done_give", "done_give", defArgs s_done_give, defBody s_done_give, defScope s_done_give, [], []⟩
abbrev s_need_deed : Stmt := top 136
def d_need_deed : He.DefD := ⟨("need_deed", none), "need_deed", "need_deed", defArgs s_need_deed, defBody s_need_deed, defScope s_need_deed, [], []⟩
abbrev s_done_in : Stmt := top 137
def d_done_in : He.DefD := ⟨("done_in", none), "done_in", "done_in", defArgs s_done_in, defBody s_done_in, defScope s_done_in, [], []⟩
abbrev s_done_at : Stmt := top 138
def d_done_at : He.DefD := ⟨("done_at", none), "done_at", "done_at", defArgs s_done_at, defBody s_done_at, defScope s_done_at, [], []⟩
abbrev s_need_goal : Stmt := top 140
def d_need_goal : He.DefD := ⟨("need_goal", none), "need_goal", "need_goal", defArgs s_need_goal, defBody s_need_goal, defScope s_need_goal, [], []⟩
abbrev s_Work_init : Stmt := inClass (top 141) 0
def d_Work_init : He.DefD := ⟨("Work", some "__init__"), "__init__", "Work.__init__", defArgs s_Work_init, defBody s_Work_init, defScope s_Work_init, [.non], []⟩
abbrev s_Work_ground : Stmt := inClass (top 141) 1
def d_Work_ground : He.DefD := ⟨("Work", some "ground"), "ground", "Work.ground", defArgs s_Work_ground, defBody s_Work_ground, defScope s_Work_ground, [], []⟩
abbrev s_Work_beneath : Stmt := inClass (top 141) 2
def d_Work_beneath : He.DefD := ⟨("Work", some "beneath"), "beneath", "Work.beneath", defArgs s_Work_beneath, defBody s_Work_beneath, defScope s_Work_beneath, [], []⟩
abbrev s_Work_holes : Stmt := inClass (top 141) 3
def d_Work_holes : He.DefD := ⟨("Work", some "holes"), "holes", "Work.holes", defArgs s_Work_holes, defBody s_Work_holes, defScope s_Work_holes, [], []⟩
abbrev s_Work_need_hole : Stmt := inClass (top 141) 4
def d_Work_need_hole : He.DefD := ⟨("Work", some "need_hole"), "need_hole", "Work.need_hole", defArgs s_Work_need_hole, defBody s_Work_need_hole, defScope s_Work_need_hole, [], []⟩
abbrev s_Work_goal : Stmt := inClass (top 141) 5
def d_Work_goal : He.DefD := ⟨("Work", some "goal"), "goal", "Work.goal", defArgs s_Work_goal, defBody s_Work_goal, defScope s_Work_goal, [], []⟩
abbrev s_Work_deed : Stmt := inClass (top 141) 6
def d_Work_deed : He.DefD := ⟨("Work", some "deed"), "deed", "Work.deed", defArgs s_Work_deed, defBody s_Work_deed, defScope s_Work_deed, [], []⟩
abbrev s_Work_left : Stmt := inClass (top 141) 7
def d_Work_left : He.DefD := ⟨("Work", some "left"), "left", "Work.left", defArgs s_Work_left, defBody s_Work_left, defScope s_Work_left, [], []⟩
abbrev s_Work_filled : Stmt := inClass (top 141) 8
def d_Work_filled : He.DefD := ⟨("Work", some "filled"), "filled", "Work.filled", defArgs s_Work_filled, defBody s_Work_filled, defScope s_Work_filled, [], []⟩
abbrev s_Work_do : Stmt := inClass (top 141) 9
def d_Work_do : He.DefD := ⟨("Work", some "do"), "do", "Work.do", defArgs s_Work_do, defBody s_Work_do, defScope s_Work_do, [], []⟩
abbrev s_Work_undo : Stmt := inClass (top 141) 10
def d_Work_undo : He.DefD := ⟨("Work", some "undo"), "undo", "Work.undo", defArgs s_Work_undo, defBody s_Work_undo, defScope s_Work_undo, [], []⟩
abbrev s_Work_paper : Stmt := inClass (top 141) 11
def d_Work_paper : He.DefD := ⟨("Work", some "paper"), "paper", "Work.paper", defArgs s_Work_paper, defBody s_Work_paper, defScope s_Work_paper, [], []⟩
abbrev s_Work_twin : Stmt := inClass (top 141) 12
def d_Work_twin : He.DefD := ⟨("Work", some "twin"), "twin", "Work.twin", defArgs s_Work_twin, defBody s_Work_twin, defScope s_Work_twin, [], []⟩
abbrev s_Work_put_back : Stmt := inClass (top 141) 13
def d_Work_put_back : He.DefD := ⟨("Work", some "put_back"), "put_back", "Work.put_back", defArgs s_Work_put_back, defBody s_Work_put_back, defScope s_Work_put_back, [], []⟩
abbrev s_Work_eq : Stmt := inClass (top 141) 14
def d_Work_eq : He.DefD := ⟨("Work", some "__eq__"), "__eq__", "Work.__eq__", defArgs s_Work_eq, defBody s_Work_eq, defScope s_Work_eq, [], []⟩
abbrev s_Work_len : Stmt := inClass (top 141) 15
def d_Work_len : He.DefD := ⟨("Work", some "__len__"), "__len__", "Work.__len__", defArgs s_Work_len, defBody s_Work_len, defScope s_Work_len, [], []⟩
abbrev s_law_cell : Stmt := top 143
def d_law_cell : He.DefD := ⟨("_law_cell", none), "_law_cell", "_law_cell", defArgs s_law_cell, defBody s_law_cell, defScope s_law_cell, [], []⟩
abbrev s_law_box : Stmt := top 144
def d_law_box : He.DefD := ⟨("_law_box", none), "_law_box", "_law_box", defArgs s_law_box, defBody s_law_box, defScope s_law_box, [], []⟩
abbrev s_law_take : Stmt := top 145
def d_law_take : He.DefD := ⟨("_law_take", none), "_law_take", "_law_take", defArgs s_law_take, defBody s_law_take, defScope s_law_take, [], []⟩
abbrev s_law_made : Stmt := top 146
def d_law_made : He.DefD := ⟨("_law_made", none), "_law_made", "_law_made", defArgs s_law_made, defBody s_law_made, defScope s_law_made, [], []⟩
abbrev s_law_right : Stmt := top 147
def d_law_right : He.DefD := ⟨("_law_right", none), "_law_right", "_law_right", defArgs s_law_right, defBody s_law_right, defScope s_law_right, [], []⟩
abbrev s_law : Stmt := top 148
def d_law : He.DefD := ⟨("law", none), "law", "law", defArgs s_law, defBody s_law, defScope s_law, [], []⟩
def fn : List He.DefD := [d_is_whole, d_is_number, d_is_name, d_has_form_terms, d_is_term, d_need_term, d_inner, d_raise_in, d_is_hold_row, d_is_row, d_need_rows, d_Ground_init, d_Ground_rows, d_Ground_has, d_Ground_told, d_Ground_with_row, d_Ground_eq, d_need_ground, d_row_of, d_gone, d_first_step, d_gone_way, d_work_out, d_need_room, d_row_for, d_Looker_init, d_Looker_height_of, d_Looker_look, d_look_at, d_look_kind, d_look_all, d_look_name, d_told_saying, d_kind_fault, d_room_fault, d_row_fault, d_ground_fault, d_has_form_deeds, d_is_deed, d_Spot_init, d_Spot_saying, d_Spot_need, d_Spot_left, d_done_bring, d_done_give, d_need_deed, d_done_in, d_done_at, d_need_goal, d_Work_init, d_Work_ground, d_Work_beneath, d_Work_holes, d_Work_need_hole, d_Work_goal, d_Work_deed, d_Work_left, d_Work_filled, d_Work_do, d_Work_undo, d_Work_paper, d_Work_twin, d_Work_put_back, d_Work_eq, d_Work_len, d_law_cell, d_law_box, d_law_take, d_law_made, d_law_right, d_law]
def fa : List He.Fa := [.glo "is_whole", .glo "is_number", .glo "is_name", .glo "has_form_terms", .glo "is_term", .glo "need_term", .glo "inner", .glo "raise_in", .glo "is_hold_row", .glo "is_row", .glo "need_rows", .glo "need_ground", .glo "row_of", .glo "gone", .glo "first_step", .glo "gone_way", .glo "work_out", .glo "need_room", .glo "row_for", .glo "look_at", .glo "look_kind", .glo "look_all", .glo "look_name", .glo "told_saying", .glo "kind_fault", .glo "room_fault", .glo "row_fault", .glo "ground_fault", .glo "has_form_deeds", .glo "is_deed", .glo "done_bring", .glo "done_give", .glo "need_deed", .glo "done_in", .glo "done_at", .glo "need_goal", .glo "_law_cell", .glo "_law_box", .glo "_law_take", .glo "_law_made", .glo "_law_right", .glo "law", .glo "Ground", .glo "Looker", .glo "Spot", .glo "Work", .cls "Ground", .mkr "Ground", .noat "Ground" "kept_rows", .noat "Ground" "kept_by", .cls "Looker", .mkr "Looker", .noat "Looker" "base", .cls "Spot", .mkr "Spot", .noat "Spot" "base", .noat "Spot" "around", .noat "Spot" "wanted", .noat "Spot" "whole", .noat "Spot" "act", .cls "Work", .mkr "Work", .noat "Work" "kept_ground", .noat "Work" "kept_goals", .noat "Work" "kept_deeds", .noat "Work" "kept_left", .noat "Work" "kept_makes", .noat "Work" "kept_next", .meth "Ground" "__init__", .meth "Ground" "rows", .meth "Ground" "has", .meth "Ground" "told", .meth "Ground" "with_row", .meth "Ground" "__eq__", .meth "Looker" "__init__", .meth "Looker" "height_of", .meth "Looker" "look", .meth "Spot" "__init__", .meth "Spot" "saying", .meth "Spot" "need", .meth "Spot" "left", .meth "Work" "__init__", .meth "Work" "ground", .meth "Work" "beneath", .meth "Work" "holes", .meth "Work" "need_hole", .meth "Work" "goal", .meth "Work" "deed", .meth "Work" "left", .meth "Work" "filled", .meth "Work" "do", .meth "Work" "undo", .meth "Work" "paper", .meth "Work" "twin", .meth "Work" "put_back", .meth "Work" "__eq__", .meth "Work" "__len__", .int "MOST_PLACE" 999, .int "MOST_KIND" 5, .int "MOST_ROWS" 24, .int "MOST_STEPS" 3000, .int "MOST_ROOM" 12, .int "MOST_SOME" 8, .str "SMALL" "abcdefghijklmnopqrstuvwxyz", .free "isinstance", .free "len", .free "all", .free "int", .free "str", .free "bool", .free "list", .free "tuple", .free "dict", .free "enumerate", .free "zip", .free "range", .free "sorted", .free "max", .free "min", .glo "NoPaper", .glo "KEPT", .glo "FORMS_terms", .glo "ROWS", .glo "LOOKS", .glo "FORMS_deeds", .glo "DONE"]
def ts : List He.Tab := [(fun K => He.ga K "FORMS_terms", ["at", "kind", "all", "fun", "app", "name", "thing", "maker", "eater", "same", "self", "put"]), (fun K => He.ga K "ROWS", ["thing", "mean", "hold"]), (fun K => He.ga K "LOOKS", ["at", "kind", "all", "fun", "app", "name", "thing", "maker", "eater", "same", "self", "put"]), (fun K => He.ga K "FORMS_deeds", ["bring", "give", "use", "make", "split", "steps", "turn", "cut", "put"]), (fun K => He.ga K "DONE", ["bring", "give", "use", "make", "split", "steps", "turn", "cut", "put"])]
def v_FORMS_terms : List (Str × He.Dv) := [("at", .str "n"), ("kind", .str "h"), ("all", .str "tt"), ("fun", .str "tt"), ("app", .str "tt"), ("name", .str "w"), ("thing", .str "w"), ("maker", .str "wn"), ("eater", .str "wh"), ("same", .str "ttt"), ("self", .str "tt"), ("put", .str "ttt")]
def v_ROWS : List (Str × He.Dv) := [("hold", .glo "is_hold_row")]
def v_LOOKS : List (Str × He.Dv) := [("at", .glo "look_at"), ("kind", .glo "look_kind"), ("all", .glo "look_all"), ("name", .glo "look_name")]
def v_FORMS_deeds : List (Str × He.Dv) := [("bring", .str ""), ("give", .str "t"), ("use", .str "ts"), ("make", .str "ns"), ("split", .str "n"), ("steps", .str ""), ("turn", .str "t"), ("cut", .str "t"), ("put", .str "t")]
def v_DONE : List (Str × He.Dv) := [("bring", .glo "done_bring"), ("give", .glo "done_give")]
def v_KEPT : List He.Dv := [.str "all", .str "fun", .str "same", .str "self", .str "put"]
def insB (K : PySem.W.Frag) (x : Str) : Bool := (PySem.W.findIn K (.ref (He.ga K x)) "__class__" == some (some (.builtin "object.__class__"))) && ((PySem.W.mroIn K (He.ga K x) (.type "object") == some true) && (PySem.W.kitOne K (.ref (He.ga K x)) (.ref (He.ga K x)) == some true))
def desB (K : PySem.W.Frag) : Bool := (PySem.W.specialIn K (.builtin "object.__class__") "__get__" == some (some (.builtin "getset_descriptor.__get__"))) && (PySem.W.takesIn K (.builtin "object.__class__") == some true)
def cmpB (K : PySem.W.Frag) (x : Str) : Bool := (PySem.W.findIn K (.ref (He.ga K x)) "__eq__" == some (some (.ref (He.ma K (He.ga K x) "__eq__")))) && ((PySem.W.findIn K (.ref (He.ga K x)) "__ne__" == some (some (.builtin "object.__ne__"))) && PySem.W.isFn K (.ref (He.ma K (He.ga K x) "__eq__")))
def lenB (K : PySem.W.Frag) (x : Str) : Bool := (PySem.W.findIn K (.ref (He.ga K x)) "__len__" == some (some (.ref (He.ma K (He.ga K x) "__len__")))) && PySem.W.isFn K (.ref (He.ma K (He.ga K x) "__len__"))
def exO (K : PySem.W.Frag) : Bool := desB K && (insB K "Ground" && (insB K "Work" && (cmpB K "Ground" && (cmpB K "Work" && lenB K "Work"))))
def ex (K : PySem.W.Frag) : Bool := exO K && (He.tupB K "KEPT" v_KEPT && (He.valsB K (He.ga K "FORMS_terms") v_FORMS_terms && (He.valsB K (He.ga K "ROWS") v_ROWS && (He.valsB K (He.ga K "LOOKS") v_LOOKS && (He.valsB K (He.ga K "FORMS_deeds") v_FORMS_deeds && (He.valsB K (He.ga K "DONE") v_DONE))))))
def tf : List He.Defn := [("done_bring", none), ("done_give", none)]
def gFn0 : List Str := ["is_whole", "is_number", "is_name", "has_form_terms", "is_term", "need_term", "inner", "raise_in", "is_hold_row", "is_row", "need_rows", "need_ground"]
def gFn1 : List Str := ["row_of", "gone", "first_step", "gone_way", "work_out", "need_room", "row_for", "look_at", "look_kind", "look_all", "look_name", "told_saying"]
def gFn2 : List Str := ["kind_fault", "room_fault", "row_fault", "ground_fault", "has_form_deeds", "is_deed", "done_bring", "done_give", "need_deed", "done_in", "done_at", "need_goal"]
def gFn3 : List Str := ["_law_cell", "_law_box", "_law_take", "_law_made", "_law_right", "law"]
def gFn : List Str := gFn0 ++ (gFn1 ++ (gFn2 ++ (gFn3)))
def gTab0 : List Str := ["FORMS_terms", "ROWS", "LOOKS", "FORMS_deeds", "DONE", "KEPT"]
def gTab : List Str := gTab0
def gCls0 : List (Str × List Str) := [("Ground", ["__init__", "rows", "has", "told", "with_row", "__eq__"]), ("Looker", ["__init__", "height_of", "look"]), ("Spot", ["__init__", "saying", "need", "left"]), ("Work", ["__init__", "ground", "beneath", "holes", "need_hole", "goal", "deed", "left", "filled", "do", "undo", "paper", "twin", "put_back", "__eq__", "__len__"])]
def gCls : List (Str × List Str) := gCls0
abbrev R : PySem.W.OpenRow := PySem.W.OpenLaw.row PySem.Challenge.rw_kernelpapers_k99_works_by_names
abbrev as : (Addr → Option Obj) → List Addr := Kh.asK gFn gCls gTab
abbrev hk : PySem.W.Hook := Kh.hookZ as fa fn ts tf ex
abbrev ob : PySem.W.SharedT → He.AlX := Kh.obZ as fa fn ts tf ex

def names0 : List PySem.Str := ["__name__", "PaperError", "NotThere", "NoneLeft", "NoTerm", "NoSpot", "NoGround", "NoRow", "Doubled", "NoRoom", "Tired", "NoPaper"]
def names1 : List PySem.Str := ["Unsound", "NoDeed", "NoFit", "NoThing", "NoHole", "Open", "SMALL", "KEPT", "MOST_PLACE", "MOST_KIND", "FORMS_terms", "BINDERS"]
def names2 : List PySem.Str := ["is_whole", "is_number", "is_name", "has_form", "has_form_terms", "is_term", "is_spot", "need_term", "inner", "with_parts", "binds", "gone_to"]
def names3 : List PySem.Str := ["spots_in", "put_at", "free_in", "raise_in", "give_in", "lower_in", "apply_to", "open_up", "MOST_BOUNDS", "MOST_MAKERS", "MOST_ARGS", "HEADS"]
def names4 : List PySem.Str := ["are_terms", "is_thing_row", "is_mean_row", "is_hold_row", "ROWS", "is_row", "places_from", "told_by", "own_spots", "between_in", "good_spots", "ungrown_in"]
def names5 : List PySem.Str := ["own_args", "all_of", "thing_of", "maker_of", "hold_of", "step_of", "eater_of", "MOST_ROWS", "need_rows", "Ground", "need_ground", "MOST_STEPS"]
def names6 : List PySem.Str := ["row_of", "under_ahead", "eaten_own", "eaten", "gone", "next_of", "first_step", "gone_way", "work_out", "MOST_ROOM", "need_room", "row_for"]
def names7 : List PySem.Str := ["Looker", "look_at", "look_kind", "look_all", "look_fun", "look_app", "look_name", "thing_row", "look_thing", "look_maker", "look_eater", "look_same"]
def names8 : List PySem.Str := ["look_self", "look_put", "LOOKS", "told_saying", "kind_fault", "has_saying", "room_fault", "maker_fault", "thing_fault", "row_fault", "ground_fault", "MOST_SOME"]
def names9 : List PySem.Str := ["FORMS_deeds", "is_some", "has_form_deeds", "is_deed", "Spot", "done_bring", "done_give", "used", "done_use", "done_make", "turned", "into_kind"]
def names10 : List PySem.Str := ["open_alls", "under_funs", "done_split", "done_steps", "has_kind", "done_turn", "done_cut", "done_put", "DONE", "need_deed", "done_in", "done_at"]
def names11 : List PySem.Str := ["need_goal", "Work", "_law_cell", "_law_box", "_law_take", "_law_made", "_law_right"]
def names : List PySem.Str := names0 ++ names1 ++ names2 ++ names3 ++ names4 ++ names5 ++ names6 ++ names7 ++ names8 ++ names9 ++ names10 ++ names11
abbrev view : Program := PySem.W.view R.prog [148]
end Kx
end
section
namespace Kx
open PySem PySem.Spec PyProof.Rows L2
theorem seen_f (w : World) : Kh.Seen R view 12000 names (w.withFollow "special-get-raises" false) := by
  intro os
  kernel_rfl
theorem seen_t (w : World) : Kh.Seen R view 12000 names (w.withFollow "special-get-raises" true) := by
  intro os
  kernel_rfl
end Kx
end
section
namespace Kx
open PySem PySem.Spec PyProof.Rows L2
theorem facts_f (w : World) : Kh.Facts R hk ob 12000 (w.withFollow "special-get-raises" false) := by
  intro os
  kernel_rfl
theorem facts_t (w : World) : Kh.Facts R hk ob 12000 (w.withFollow "special-get-raises" true) := by
  intro os
  kernel_rfl
end Kx
end
section
namespace Kx
open PySem PySem.Spec PyProof.Rows L2
/-- what the top has written -/
structure Bk (w : World) (K : PySem.W.Frag) (mg : Str → Option Value) : Prop where
  ex : ∃ h : Heap, K.In h ∧ h.Ns mainGlobals mg ∧ He.SaysX fa fn ts tf ex w h K
section
variable {P : Program} {w : World} {K : PySem.W.Frag} {mg : Str → Option Value} {base : Heap}
theorem Bk.fact (B : Bk w K mg) (i : Nat) {f : He.Fa} (h : fa[i]? = some f := by rfl) : f.ok K = true := by
  obtain ⟨_, _, _, c⟩ := B.ex
  exact c.t.d.fact i h
theorem Bk.glo (B : Bk w K mg) (i : Nat) {x : Str} (h : fa[i]? = some (.glo x) := by rfl) : mg x = some (.ref (He.ga K x)) := by
  obtain ⟨_, X, G, c⟩ := B.ex
  exact He.glo_ok X G (c.t.d.fact i h)
theorem Bk.free (B : Bk w K mg) (i : Nat) {x : Str} (h : fa[i]? = some (.free x) := by rfl) : mg x = none := by
  obtain ⟨_, X, G, c⟩ := B.ex
  exact He.free_ok X G (c.t.d.fact i h)
theorem Bk.int (B : Bk w K mg) (i : Nat) {x : Str} {n : Int} (h : fa[i]? = some (.int x n) := by rfl) : ∃ t, mg x = some (.int n t) := by
  obtain ⟨_, X, G, c⟩ := B.ex
  exact He.int_ok X G (c.t.d.fact i h)
theorem Bk.str (B : Bk w K mg) (i : Nat) {x z : Str} (h : fa[i]? = some (.str x z) := by rfl) : ∃ t, mg x = some (.str z t) := by
  obtain ⟨_, X, G, c⟩ := B.ex
  exact He.str_ok X G (c.t.d.fact i h)
theorem Bk.cls (B : Bk w K mg) (i : Nat) {x : Str} (h : fa[i]? = some (.cls x) := by rfl) : Cls K (He.ga K x) := He.cls_ok (B.fact i h)
theorem Bk.noat (B : Bk w K mg) (i : Nat) {x f : Str} (h : fa[i]? = some (.noat x f) := by rfl) : NoAttr K (He.ga K x) f := He.noat_ok (B.fact i h)
theorem Bk.meth (B : Bk w K mg) (i : Nat) {x m : Str} (h : fa[i]? = some (.meth x m) := by rfl) : Meth K (He.ga K x) m (He.ma K (He.ga K x) m) := He.meth_ok (B.fact i h)
theorem Bk.mkr (B : Bk w K mg) (i : Nat) {x : Str} (h : fa[i]? = some (.mkr x) := by rfl) : Mk K (He.ga K x) (He.ma K (He.ga K x) "__init__") := He.mkr_ok (B.fact i h)
theorem Bk.def_ (B : Bk w K mg) (i : Nat) {d : He.DefD} (h : fn[i]? = some d := by rfl) : ∃ fd, FunD K d.name d.qual d.params d.body d.scope (d.dvs K) (d.kws K) (He.fAd K d.at_) fd := by
  obtain ⟨_, _, _, c⟩ := B.ex
  exact c.t.d.def_ i h
/-- a def by its body, nothing raised -/
theorem fokD {nm qual : Str} {st : Stmt} {f : Addr} {fd : FuncData} {N ps : List Str} {k : Nat} {sp : Sp} {dv : List V} {kv : List (Str × V)} (F : FunD K nm qual (defArgs st) (defBody st) (defScope st) dv kv f fd) (S : FnScope N ps (defScope st))
    (len : ∀ vs H Q E, sp vs H Q E → vs.length = ps.length)
    (hbody : ∀ (cdv : Value) (A : Around) (outer : List Env) (s : Shared) (H : Hp) (vs : List V) (Q : VK) (E : XK), Room k (A.deeper (envOfC qual (defScope st) s.heap.objs.size f cdv)) → sp vs H Q E →
      ∃ t, PSs (cxOf C8.CX0 P w K mg base N qual (defScope st) f cdv A outer s H E).nox (defBody st) t ∧ t { nx := fun _ H' => Q .non H', rt := Q } (start N vs) H) : FnOk P w K mg base C8.CX0 (k + 1) f fd ps sp :=
  F.ok S len fun cdv A outer s H vs Q E hr h =>
    let ⟨t, a, b⟩ := hbody cdv A outer s H vs Q E hr h
    ⟨t, a.nox, b⟩
/-- a def that may be called by its name, by its body -/
theorem calD {x nm qual : Str} {st : Stmt} {f : Addr} {fd : FuncData} {N ps : List Str} {k : Nat} {sp : Sp} (F : FunD K nm qual (defArgs st) (defBody st) (defScope st) [] [] f fd) (hm : mg x = some (.ref f)) (S : FnScope N ps (defScope st))
    (hb : ∀ (kV doc pm : Value) (an : Option Addr) (cdv ct : Value) (us : List Value), us.length = ps.length → bindArgs (PySem.W.fnOf nm qual (defArgs st) (defBody st) (defScope st) .none kV doc pm an cdv ct) ⟨us, []⟩ = pure (ps.zip us))
    (len : ∀ vs H Q E, sp vs H Q E → vs.length = ps.length)
    (hbody : ∀ (cdv : Value) (A : Around) (outer : List Env) (s : Shared) (H : Hp) (vs : List V) (Q : VK) (E : XK), Room k (A.deeper (envOfC qual (defScope st) s.heap.objs.size f cdv)) → sp vs H Q E →
      ∃ t, PSs (cxOf C8.CX0 P w K mg base N qual (defScope st) f cdv A outer s H E).nox (defBody st) t ∧ t { nx := fun _ H' => Q .non H', rt := Q } (start N vs) H) : C8.Cal P w K mg base (k + 1) x sp [] :=
  ⟨f, fd, ps, [], fokD F S len hbody, hm, F.kp, F.bindsN hb, .nil⟩
/-- a method -/
theorem metD {C : Addr} {m nm qual : Str} {st : Stmt} {f : Addr} {fd : FuncData} {N ps : List Str} {k : Nat} {sp : Sp} (c : Cls K C) (me : Meth K C m f) (F : FunD K nm qual (defArgs st) (defBody st) (defScope st) [] [] f fd) (S : FnScope N ps (defScope st))
    (hb : ∀ (kV doc pm : Value) (an : Option Addr) (cdv ct : Value) (us : List Value), us.length = ps.length → bindArgs (PySem.W.fnOf nm qual (defArgs st) (defBody st) (defScope st) .none kV doc pm an cdv ct) ⟨us, []⟩ = pure (ps.zip us))
    (len : ∀ vs H Q E, sp vs H Q E → vs.length = ps.length)
    (hbody : ∀ (cdv : Value) (A : Around) (outer : List Env) (s : Shared) (H : Hp) (vs : List V) (Q : VK) (E : XK), Room k (A.deeper (envOfC qual (defScope st) s.heap.objs.size f cdv)) → sp vs H Q E →
      ∃ t, PSs (cxOf C8.CX0 P w K mg base N qual (defScope st) f cdv A outer s H E).nox (defBody st) t ∧ t { nx := fun _ H' => Q .non H', rt := Q } (start N vs) H) : C8.Met P w K mg base (k + 1) C m sp [] :=
  ⟨f, fd, ps, [], c, me, fokD F S len hbody, F.bindsN hb, .nil⟩
/-- a class, by its __init__ (no defaults) -/
theorem makD {x : Str} {C : Addr} {nm qual : Str} {st : Stmt} {f : Addr} {fd : FuncData} {N ps : List Str} {k : Nat} {sp : Sp} (M : Mk K C f) (hm : mg x = some (.ref C)) (F : FunD K nm qual (defArgs st) (defBody st) (defScope st) [] [] f fd) (S : FnScope N ps (defScope st))
    (hb : ∀ (kV doc pm : Value) (an : Option Addr) (cdv ct : Value) (us : List Value), us.length = ps.length → bindArgs (PySem.W.fnOf nm qual (defArgs st) (defBody st) (defScope st) .none kV doc pm an cdv ct) ⟨us, []⟩ = pure (ps.zip us))
    (len : ∀ vs H Q E, sp vs H Q E → vs.length = ps.length)
    (hbody : ∀ (cdv : Value) (A : Around) (outer : List Env) (s : Shared) (H : Hp) (vs : List V) (Q : VK) (E : XK), Room k (A.deeper (envOfC qual (defScope st) s.heap.objs.size f cdv)) → sp vs H Q E →
      ∃ t, PSs (cxOf C8.CX0 P w K mg base N qual (defScope st) f cdv A outer s H E).nox (defBody st) t ∧ t { nx := fun _ H' => Q .non H', rt := Q } (start N vs) H) : C8.Mak P w K mg base (k + 1) x C sp [] :=
  ⟨f, fd, ps, [], M, fokD F S len hbody, hm, F.bindsN hb, .nil⟩
end
end Kx
end
section
namespace Kx
open PySem PySem.Spec PyProof.Rows L2
section
variable {P : Program} {w : World} {K : PySem.W.Frag} {mg : Str → Option Value} {base : Heap}
theorem g_is_whole (B : Bk w K mg) : mg "is_whole" = some (.ref (He.ga K "is_whole")) := B.glo 0
theorem g_is_number (B : Bk w K mg) : mg "is_number" = some (.ref (He.ga K "is_number")) := B.glo 1
theorem g_is_name (B : Bk w K mg) : mg "is_name" = some (.ref (He.ga K "is_name")) := B.glo 2
theorem g_has_form_terms (B : Bk w K mg) : mg "has_form_terms" = some (.ref (He.ga K "has_form_terms")) := B.glo 3
theorem g_is_term (B : Bk w K mg) : mg "is_term" = some (.ref (He.ga K "is_term")) := B.glo 4
theorem g_need_term (B : Bk w K mg) : mg "need_term" = some (.ref (He.ga K "need_term")) := B.glo 5
theorem g_inner (B : Bk w K mg) : mg "inner" = some (.ref (He.ga K "inner")) := B.glo 6
theorem g_raise_in (B : Bk w K mg) : mg "raise_in" = some (.ref (He.ga K "raise_in")) := B.glo 7
theorem g_is_hold_row (B : Bk w K mg) : mg "is_hold_row" = some (.ref (He.ga K "is_hold_row")) := B.glo 8
theorem g_is_row (B : Bk w K mg) : mg "is_row" = some (.ref (He.ga K "is_row")) := B.glo 9
theorem g_need_rows (B : Bk w K mg) : mg "need_rows" = some (.ref (He.ga K "need_rows")) := B.glo 10
theorem g_need_ground (B : Bk w K mg) : mg "need_ground" = some (.ref (He.ga K "need_ground")) := B.glo 11
theorem g_row_of (B : Bk w K mg) : mg "row_of" = some (.ref (He.ga K "row_of")) := B.glo 12
theorem g_gone (B : Bk w K mg) : mg "gone" = some (.ref (He.ga K "gone")) := B.glo 13
theorem g_first_step (B : Bk w K mg) : mg "first_step" = some (.ref (He.ga K "first_step")) := B.glo 14
theorem g_gone_way (B : Bk w K mg) : mg "gone_way" = some (.ref (He.ga K "gone_way")) := B.glo 15
theorem g_work_out (B : Bk w K mg) : mg "work_out" = some (.ref (He.ga K "work_out")) := B.glo 16
theorem g_need_room (B : Bk w K mg) : mg "need_room" = some (.ref (He.ga K "need_room")) := B.glo 17
theorem g_row_for (B : Bk w K mg) : mg "row_for" = some (.ref (He.ga K "row_for")) := B.glo 18
theorem g_look_at (B : Bk w K mg) : mg "look_at" = some (.ref (He.ga K "look_at")) := B.glo 19
theorem g_look_kind (B : Bk w K mg) : mg "look_kind" = some (.ref (He.ga K "look_kind")) := B.glo 20
theorem g_look_all (B : Bk w K mg) : mg "look_all" = some (.ref (He.ga K "look_all")) := B.glo 21
theorem g_look_name (B : Bk w K mg) : mg "look_name" = some (.ref (He.ga K "look_name")) := B.glo 22
theorem g_told_saying (B : Bk w K mg) : mg "told_saying" = some (.ref (He.ga K "told_saying")) := B.glo 23
theorem g_kind_fault (B : Bk w K mg) : mg "kind_fault" = some (.ref (He.ga K "kind_fault")) := B.glo 24
theorem g_room_fault (B : Bk w K mg) : mg "room_fault" = some (.ref (He.ga K "room_fault")) := B.glo 25
theorem g_row_fault (B : Bk w K mg) : mg "row_fault" = some (.ref (He.ga K "row_fault")) := B.glo 26
theorem g_ground_fault (B : Bk w K mg) : mg "ground_fault" = some (.ref (He.ga K "ground_fault")) := B.glo 27
theorem g_has_form_deeds (B : Bk w K mg) : mg "has_form_deeds" = some (.ref (He.ga K "has_form_deeds")) := B.glo 28
theorem g_is_deed (B : Bk w K mg) : mg "is_deed" = some (.ref (He.ga K "is_deed")) := B.glo 29
theorem g_done_bring (B : Bk w K mg) : mg "done_bring" = some (.ref (He.ga K "done_bring")) := B.glo 30
theorem g_done_give (B : Bk w K mg) : mg "done_give" = some (.ref (He.ga K "done_give")) := B.glo 31
theorem g_need_deed (B : Bk w K mg) : mg "need_deed" = some (.ref (He.ga K "need_deed")) := B.glo 32
theorem g_done_in (B : Bk w K mg) : mg "done_in" = some (.ref (He.ga K "done_in")) := B.glo 33
theorem g_done_at (B : Bk w K mg) : mg "done_at" = some (.ref (He.ga K "done_at")) := B.glo 34
theorem g_need_goal (B : Bk w K mg) : mg "need_goal" = some (.ref (He.ga K "need_goal")) := B.glo 35
theorem g_law_cell (B : Bk w K mg) : mg "_law_cell" = some (.ref (He.ga K "_law_cell")) := B.glo 36
theorem g_law_box (B : Bk w K mg) : mg "_law_box" = some (.ref (He.ga K "_law_box")) := B.glo 37
theorem g_law_take (B : Bk w K mg) : mg "_law_take" = some (.ref (He.ga K "_law_take")) := B.glo 38
theorem g_law_made (B : Bk w K mg) : mg "_law_made" = some (.ref (He.ga K "_law_made")) := B.glo 39
theorem g_law_right (B : Bk w K mg) : mg "_law_right" = some (.ref (He.ga K "_law_right")) := B.glo 40
theorem g_law (B : Bk w K mg) : mg "law" = some (.ref (He.ga K "law")) := B.glo 41
theorem g_Ground (B : Bk w K mg) : mg "Ground" = some (.ref (He.ga K "Ground")) := B.glo 42
theorem g_Looker (B : Bk w K mg) : mg "Looker" = some (.ref (He.ga K "Looker")) := B.glo 43
theorem g_Spot (B : Bk w K mg) : mg "Spot" = some (.ref (He.ga K "Spot")) := B.glo 44
theorem g_Work (B : Bk w K mg) : mg "Work" = some (.ref (He.ga K "Work")) := B.glo 45
theorem c_Ground (B : Bk w K mg) : Cls K (He.ga K "Ground") := B.cls 46
theorem k_Ground (B : Bk w K mg) : Mk K (He.ga K "Ground") (He.ma K (He.ga K "Ground") "__init__") := B.mkr 47
theorem n_Ground_kept_rows (B : Bk w K mg) : NoAttr K (He.ga K "Ground") "kept_rows" := B.noat 48
theorem n_Ground_kept_by (B : Bk w K mg) : NoAttr K (He.ga K "Ground") "kept_by" := B.noat 49
theorem c_Looker (B : Bk w K mg) : Cls K (He.ga K "Looker") := B.cls 50
theorem k_Looker (B : Bk w K mg) : Mk K (He.ga K "Looker") (He.ma K (He.ga K "Looker") "__init__") := B.mkr 51
theorem n_Looker_base (B : Bk w K mg) : NoAttr K (He.ga K "Looker") "base" := B.noat 52
theorem c_Spot (B : Bk w K mg) : Cls K (He.ga K "Spot") := B.cls 53
theorem k_Spot (B : Bk w K mg) : Mk K (He.ga K "Spot") (He.ma K (He.ga K "Spot") "__init__") := B.mkr 54
theorem n_Spot_base (B : Bk w K mg) : NoAttr K (He.ga K "Spot") "base" := B.noat 55
theorem n_Spot_around (B : Bk w K mg) : NoAttr K (He.ga K "Spot") "around" := B.noat 56
theorem n_Spot_wanted (B : Bk w K mg) : NoAttr K (He.ga K "Spot") "wanted" := B.noat 57
theorem n_Spot_whole (B : Bk w K mg) : NoAttr K (He.ga K "Spot") "whole" := B.noat 58
theorem n_Spot_act (B : Bk w K mg) : NoAttr K (He.ga K "Spot") "act" := B.noat 59
theorem c_Work (B : Bk w K mg) : Cls K (He.ga K "Work") := B.cls 60
theorem k_Work (B : Bk w K mg) : Mk K (He.ga K "Work") (He.ma K (He.ga K "Work") "__init__") := B.mkr 61
theorem n_Work_kept_ground (B : Bk w K mg) : NoAttr K (He.ga K "Work") "kept_ground" := B.noat 62
theorem n_Work_kept_goals (B : Bk w K mg) : NoAttr K (He.ga K "Work") "kept_goals" := B.noat 63
theorem n_Work_kept_deeds (B : Bk w K mg) : NoAttr K (He.ga K "Work") "kept_deeds" := B.noat 64
theorem n_Work_kept_left (B : Bk w K mg) : NoAttr K (He.ga K "Work") "kept_left" := B.noat 65
theorem n_Work_kept_makes (B : Bk w K mg) : NoAttr K (He.ga K "Work") "kept_makes" := B.noat 66
theorem n_Work_kept_next (B : Bk w K mg) : NoAttr K (He.ga K "Work") "kept_next" := B.noat 67
theorem m_Ground_init (B : Bk w K mg) : Meth K (He.ga K "Ground") "__init__" (He.ma K (He.ga K "Ground") "__init__") := B.meth 68
theorem m_Ground_rows (B : Bk w K mg) : Meth K (He.ga K "Ground") "rows" (He.ma K (He.ga K "Ground") "rows") := B.meth 69
theorem m_Ground_has (B : Bk w K mg) : Meth K (He.ga K "Ground") "has" (He.ma K (He.ga K "Ground") "has") := B.meth 70
theorem m_Ground_told (B : Bk w K mg) : Meth K (He.ga K "Ground") "told" (He.ma K (He.ga K "Ground") "told") := B.meth 71
theorem m_Ground_with_row (B : Bk w K mg) : Meth K (He.ga K "Ground") "with_row" (He.ma K (He.ga K "Ground") "with_row") := B.meth 72
theorem m_Ground_eq (B : Bk w K mg) : Meth K (He.ga K "Ground") "__eq__" (He.ma K (He.ga K "Ground") "__eq__") := B.meth 73
theorem m_Looker_init (B : Bk w K mg) : Meth K (He.ga K "Looker") "__init__" (He.ma K (He.ga K "Looker") "__init__") := B.meth 74
theorem m_Looker_height_of (B : Bk w K mg) : Meth K (He.ga K "Looker") "height_of" (He.ma K (He.ga K "Looker") "height_of") := B.meth 75
theorem m_Looker_look (B : Bk w K mg) : Meth K (He.ga K "Looker") "look" (He.ma K (He.ga K "Looker") "look") := B.meth 76
theorem m_Spot_init (B : Bk w K mg) : Meth K (He.ga K "Spot") "__init__" (He.ma K (He.ga K "Spot") "__init__") := B.meth 77
theorem m_Spot_saying (B : Bk w K mg) : Meth K (He.ga K "Spot") "saying" (He.ma K (He.ga K "Spot") "saying") := B.meth 78
theorem m_Spot_need (B : Bk w K mg) : Meth K (He.ga K "Spot") "need" (He.ma K (He.ga K "Spot") "need") := B.meth 79
theorem m_Spot_left (B : Bk w K mg) : Meth K (He.ga K "Spot") "left" (He.ma K (He.ga K "Spot") "left") := B.meth 80
theorem m_Work_init (B : Bk w K mg) : Meth K (He.ga K "Work") "__init__" (He.ma K (He.ga K "Work") "__init__") := B.meth 81
theorem m_Work_ground (B : Bk w K mg) : Meth K (He.ga K "Work") "ground" (He.ma K (He.ga K "Work") "ground") := B.meth 82
theorem m_Work_beneath (B : Bk w K mg) : Meth K (He.ga K "Work") "beneath" (He.ma K (He.ga K "Work") "beneath") := B.meth 83
theorem m_Work_holes (B : Bk w K mg) : Meth K (He.ga K "Work") "holes" (He.ma K (He.ga K "Work") "holes") := B.meth 84
theorem m_Work_need_hole (B : Bk w K mg) : Meth K (He.ga K "Work") "need_hole" (He.ma K (He.ga K "Work") "need_hole") := B.meth 85
theorem m_Work_goal (B : Bk w K mg) : Meth K (He.ga K "Work") "goal" (He.ma K (He.ga K "Work") "goal") := B.meth 86
theorem m_Work_deed (B : Bk w K mg) : Meth K (He.ga K "Work") "deed" (He.ma K (He.ga K "Work") "deed") := B.meth 87
theorem m_Work_left (B : Bk w K mg) : Meth K (He.ga K "Work") "left" (He.ma K (He.ga K "Work") "left") := B.meth 88
theorem m_Work_filled (B : Bk w K mg) : Meth K (He.ga K "Work") "filled" (He.ma K (He.ga K "Work") "filled") := B.meth 89
theorem m_Work_do (B : Bk w K mg) : Meth K (He.ga K "Work") "do" (He.ma K (He.ga K "Work") "do") := B.meth 90
theorem m_Work_undo (B : Bk w K mg) : Meth K (He.ga K "Work") "undo" (He.ma K (He.ga K "Work") "undo") := B.meth 91
theorem m_Work_paper (B : Bk w K mg) : Meth K (He.ga K "Work") "paper" (He.ma K (He.ga K "Work") "paper") := B.meth 92
theorem m_Work_twin (B : Bk w K mg) : Meth K (He.ga K "Work") "twin" (He.ma K (He.ga K "Work") "twin") := B.meth 93
theorem m_Work_put_back (B : Bk w K mg) : Meth K (He.ga K "Work") "put_back" (He.ma K (He.ga K "Work") "put_back") := B.meth 94
theorem m_Work_eq (B : Bk w K mg) : Meth K (He.ga K "Work") "__eq__" (He.ma K (He.ga K "Work") "__eq__") := B.meth 95
theorem m_Work_len (B : Bk w K mg) : Meth K (He.ga K "Work") "__len__" (He.ma K (He.ga K "Work") "__len__") := B.meth 96
theorem i_MOST_PLACE (B : Bk w K mg) : ∃ t, mg "MOST_PLACE" = some (.int 999 t) := B.int 97
theorem i_MOST_KIND (B : Bk w K mg) : ∃ t, mg "MOST_KIND" = some (.int 5 t) := B.int 98
theorem i_MOST_ROWS (B : Bk w K mg) : ∃ t, mg "MOST_ROWS" = some (.int 24 t) := B.int 99
theorem i_MOST_STEPS (B : Bk w K mg) : ∃ t, mg "MOST_STEPS" = some (.int 3000 t) := B.int 100
theorem i_MOST_ROOM (B : Bk w K mg) : ∃ t, mg "MOST_ROOM" = some (.int 12 t) := B.int 101
theorem i_MOST_SOME (B : Bk w K mg) : ∃ t, mg "MOST_SOME" = some (.int 8 t) := B.int 102
theorem i_SMALL (B : Bk w K mg) : ∃ t, mg "SMALL" = some (.str "abcdefghijklmnopqrstuvwxyz" t) := B.str 103
theorem b_isinstance (B : Bk w K mg) : mg "isinstance" = none := B.free 104
theorem b_len (B : Bk w K mg) : mg "len" = none := B.free 105
theorem b_all (B : Bk w K mg) : mg "all" = none := B.free 106
theorem b_int (B : Bk w K mg) : mg "int" = none := B.free 107
theorem b_str (B : Bk w K mg) : mg "str" = none := B.free 108
theorem b_bool (B : Bk w K mg) : mg "bool" = none := B.free 109
theorem b_list (B : Bk w K mg) : mg "list" = none := B.free 110
theorem b_tuple (B : Bk w K mg) : mg "tuple" = none := B.free 111
theorem b_dict (B : Bk w K mg) : mg "dict" = none := B.free 112
theorem b_enumerate (B : Bk w K mg) : mg "enumerate" = none := B.free 113
theorem b_zip (B : Bk w K mg) : mg "zip" = none := B.free 114
theorem b_range (B : Bk w K mg) : mg "range" = none := B.free 115
theorem b_sorted (B : Bk w K mg) : mg "sorted" = none := B.free 116
theorem b_max (B : Bk w K mg) : mg "max" = none := B.free 117
theorem b_min (B : Bk w K mg) : mg "min" = none := B.free 118
theorem g_NoPaper (B : Bk w K mg) : mg "NoPaper" = some (.ref (He.ga K "NoPaper")) := B.glo 119
theorem g_KEPT (B : Bk w K mg) : mg "KEPT" = some (.ref (He.ga K "KEPT")) := B.glo 120
theorem g_FORMS_terms (B : Bk w K mg) : mg "FORMS_terms" = some (.ref (He.ga K "FORMS_terms")) := B.glo 121
theorem g_ROWS (B : Bk w K mg) : mg "ROWS" = some (.ref (He.ga K "ROWS")) := B.glo 122
theorem g_LOOKS (B : Bk w K mg) : mg "LOOKS" = some (.ref (He.ga K "LOOKS")) := B.glo 123
theorem g_FORMS_deeds (B : Bk w K mg) : mg "FORMS_deeds" = some (.ref (He.ga K "FORMS_deeds")) := B.glo 124
theorem g_DONE (B : Bk w K mg) : mg "DONE" = some (.ref (He.ga K "DONE")) := B.glo 125
theorem D_is_whole (B : Bk w K mg) : ∃ fd, FunD K "is_whole" "is_whole" (defArgs s_is_whole) (defBody s_is_whole) (defScope s_is_whole) [] [] (He.ga K "is_whole") fd := B.def_ 0
theorem D_is_number (B : Bk w K mg) : ∃ fd, FunD K "is_number" "is_number" (defArgs s_is_number) (defBody s_is_number) (defScope s_is_number) [] [] (He.ga K "is_number") fd := B.def_ 1
theorem D_is_name (B : Bk w K mg) : ∃ fd, FunD K "is_name" "is_name" (defArgs s_is_name) (defBody s_is_name) (defScope s_is_name) [] [] (He.ga K "is_name") fd := B.def_ 2
theorem D_has_form_terms (B : Bk w K mg) : ∃ fd, FunD K "has_form" "has_form" (defArgs s_has_form_terms) (defBody s_has_form_terms) (defScope s_has_form_terms) [] [] (He.ga K "has_form_terms") fd := B.def_ 3
theorem D_is_term (B : Bk w K mg) : ∃ fd, FunD K "is_term" "is_term" (defArgs s_is_term) (defBody s_is_term) (defScope s_is_term) [] [] (He.ga K "is_term") fd := B.def_ 4
theorem D_need_term (B : Bk w K mg) : ∃ fd, FunD K "need_term" "need_term" (defArgs s_need_term) (defBody s_need_term) (defScope s_need_term) [] [] (He.ga K "need_term") fd := B.def_ 5
theorem D_inner (B : Bk w K mg) : ∃ fd, FunD K "inner" "inner" (defArgs s_inner) (defBody s_inner) (defScope s_inner) [] [] (He.ga K "inner") fd := B.def_ 6
theorem D_raise_in (B : Bk w K mg) : ∃ fd, FunD K "raise_in" "raise_in" (defArgs s_raise_in) (defBody s_raise_in) (defScope s_raise_in) [] [] (He.ga K "raise_in") fd := B.def_ 7
theorem D_is_hold_row (B : Bk w K mg) : ∃ fd, FunD K "is_hold_row" "is_hold_row" (defArgs s_is_hold_row) (defBody s_is_hold_row) (defScope s_is_hold_row) [] [] (He.ga K "is_hold_row") fd := B.def_ 8
theorem D_is_row (B : Bk w K mg) : ∃ fd, FunD K "is_row" "is_row" (defArgs s_is_row) (defBody s_is_row) (defScope s_is_row) [] [] (He.ga K "is_row") fd := B.def_ 9
theorem D_need_rows (B : Bk w K mg) : ∃ fd, FunD K "need_rows" "need_rows" (defArgs s_need_rows) (defBody s_need_rows) (defScope s_need_rows) [] [] (He.ga K "need_rows") fd := B.def_ 10
theorem D_Ground_init (B : Bk w K mg) : ∃ fd, FunD K "__init__" "Ground.__init__" (defArgs s_Ground_init) (defBody s_Ground_init) (defScope s_Ground_init) [V.non] [] (He.ma K (He.ga K "Ground") "__init__") fd := B.def_ 11
theorem D_Ground_rows (B : Bk w K mg) : ∃ fd, FunD K "rows" "Ground.rows" (defArgs s_Ground_rows) (defBody s_Ground_rows) (defScope s_Ground_rows) [] [] (He.ma K (He.ga K "Ground") "rows") fd := B.def_ 12
theorem D_Ground_has (B : Bk w K mg) : ∃ fd, FunD K "has" "Ground.has" (defArgs s_Ground_has) (defBody s_Ground_has) (defScope s_Ground_has) [] [] (He.ma K (He.ga K "Ground") "has") fd := B.def_ 13
theorem D_Ground_told (B : Bk w K mg) : ∃ fd, FunD K "told" "Ground.told" (defArgs s_Ground_told) (defBody s_Ground_told) (defScope s_Ground_told) [] [] (He.ma K (He.ga K "Ground") "told") fd := B.def_ 14
theorem D_Ground_with_row (B : Bk w K mg) : ∃ fd, FunD K "with_row" "Ground.with_row" (defArgs s_Ground_with_row) (defBody s_Ground_with_row) (defScope s_Ground_with_row) [] [] (He.ma K (He.ga K "Ground") "with_row") fd := B.def_ 15
theorem D_Ground_eq (B : Bk w K mg) : ∃ fd, FunD K "__eq__" "Ground.__eq__" (defArgs s_Ground_eq) (defBody s_Ground_eq) (defScope s_Ground_eq) [] [] (He.ma K (He.ga K "Ground") "__eq__") fd := B.def_ 16
theorem D_need_ground (B : Bk w K mg) : ∃ fd, FunD K "need_ground" "need_ground" (defArgs s_need_ground) (defBody s_need_ground) (defScope s_need_ground) [] [] (He.ga K "need_ground") fd := B.def_ 17
theorem D_row_of (B : Bk w K mg) : ∃ fd, FunD K "row_of" "row_of" (defArgs s_row_of) (defBody s_row_of) (defScope s_row_of) [] [] (He.ga K "row_of") fd := B.def_ 18
theorem D_gone (B : Bk w K mg) : ∃ fd, FunD K "gone" "gone" (defArgs s_gone) (defBody s_gone) (defScope s_gone) [] [] (He.ga K "gone") fd := B.def_ 19
theorem D_first_step (B : Bk w K mg) : ∃ fd, FunD K "first_step" "first_step" (defArgs s_first_step) (defBody s_first_step) (defScope s_first_step) [] [] (He.ga K "first_step") fd := B.def_ 20
theorem D_gone_way (B : Bk w K mg) : ∃ fd, FunD K "gone_way" "gone_way" (defArgs s_gone_way) (defBody s_gone_way) (defScope s_gone_way) [] [] (He.ga K "gone_way") fd := B.def_ 21
theorem D_work_out (B : Bk w K mg) : ∃ fd, FunD K "work_out" "work_out" (defArgs s_work_out) (defBody s_work_out) (defScope s_work_out) [] [] (He.ga K "work_out") fd := B.def_ 22
theorem D_need_room (B : Bk w K mg) : ∃ fd, FunD K "need_room" "need_room" (defArgs s_need_room) (defBody s_need_room) (defScope s_need_room) [] [] (He.ga K "need_room") fd := B.def_ 23
theorem D_row_for (B : Bk w K mg) : ∃ fd, FunD K "row_for" "row_for" (defArgs s_row_for) (defBody s_row_for) (defScope s_row_for) [] [] (He.ga K "row_for") fd := B.def_ 24
theorem D_Looker_init (B : Bk w K mg) : ∃ fd, FunD K "__init__" "Looker.__init__" (defArgs s_Looker_init) (defBody s_Looker_init) (defScope s_Looker_init) [] [] (He.ma K (He.ga K "Looker") "__init__") fd := B.def_ 25
theorem D_Looker_height_of (B : Bk w K mg) : ∃ fd, FunD K "height_of" "Looker.height_of" (defArgs s_Looker_height_of) (defBody s_Looker_height_of) (defScope s_Looker_height_of) [] [] (He.ma K (He.ga K "Looker") "height_of") fd := B.def_ 26
theorem D_Looker_look (B : Bk w K mg) : ∃ fd, FunD K "look" "Looker.look" (defArgs s_Looker_look) (defBody s_Looker_look) (defScope s_Looker_look) [] [] (He.ma K (He.ga K "Looker") "look") fd := B.def_ 27
theorem D_look_at (B : Bk w K mg) : ∃ fd, FunD K "look_at" "look_at" (defArgs s_look_at) (defBody s_look_at) (defScope s_look_at) [] [] (He.ga K "look_at") fd := B.def_ 28
theorem D_look_kind (B : Bk w K mg) : ∃ fd, FunD K "look_kind" "look_kind" (defArgs s_look_kind) (defBody s_look_kind) (defScope s_look_kind) [] [] (He.ga K "look_kind") fd := B.def_ 29
theorem D_look_all (B : Bk w K mg) : ∃ fd, FunD K "look_all" "look_all" (defArgs s_look_all) (defBody s_look_all) (defScope s_look_all) [] [] (He.ga K "look_all") fd := B.def_ 30
theorem D_look_name (B : Bk w K mg) : ∃ fd, FunD K "look_name" "look_name" (defArgs s_look_name) (defBody s_look_name) (defScope s_look_name) [] [] (He.ga K "look_name") fd := B.def_ 31
theorem D_told_saying (B : Bk w K mg) : ∃ fd, FunD K "told_saying" "told_saying" (defArgs s_told_saying) (defBody s_told_saying) (defScope s_told_saying) [] [] (He.ga K "told_saying") fd := B.def_ 32
theorem D_kind_fault (B : Bk w K mg) : ∃ fd, FunD K "kind_fault" "kind_fault" (defArgs s_kind_fault) (defBody s_kind_fault) (defScope s_kind_fault) [] [] (He.ga K "kind_fault") fd := B.def_ 33
theorem D_room_fault (B : Bk w K mg) : ∃ fd, FunD K "room_fault" "room_fault" (defArgs s_room_fault) (defBody s_room_fault) (defScope s_room_fault) [] [] (He.ga K "room_fault") fd := B.def_ 34
theorem D_row_fault (B : Bk w K mg) : ∃ fd, FunD K "row_fault" "row_fault" (defArgs s_row_fault) (defBody s_row_fault) (defScope s_row_fault) [] [] (He.ga K "row_fault") fd := B.def_ 35
theorem D_ground_fault (B : Bk w K mg) : ∃ fd, FunD K "ground_fault" "ground_fault" (defArgs s_ground_fault) (defBody s_ground_fault) (defScope s_ground_fault) [] [] (He.ga K "ground_fault") fd := B.def_ 36
theorem D_has_form_deeds (B : Bk w K mg) : ∃ fd, FunD K "has_form" "has_form" (defArgs s_has_form_deeds) (defBody s_has_form_deeds) (defScope s_has_form_deeds) [] [] (He.ga K "has_form_deeds") fd := B.def_ 37
theorem D_is_deed (B : Bk w K mg) : ∃ fd, FunD K "is_deed" "is_deed" (defArgs s_is_deed) (defBody s_is_deed) (defScope s_is_deed) [] [] (He.ga K "is_deed") fd := B.def_ 38
theorem D_Spot_init (B : Bk w K mg) : ∃ fd, FunD K "__init__" "Spot.__init__" (defArgs s_Spot_init) (defBody s_Spot_init) (defScope s_Spot_init) [] [] (He.ma K (He.ga K "Spot") "__init__") fd := B.def_ 39
theorem D_Spot_saying (B : Bk w K mg) : ∃ fd, FunD K "saying" "Spot.saying" (defArgs s_Spot_saying) (defBody s_Spot_saying) (defScope s_Spot_saying) [] [] (He.ma K (He.ga K "Spot") "saying") fd := B.def_ 40
theorem D_Spot_need (B : Bk w K mg) : ∃ fd, FunD K "need" "Spot.need" (defArgs s_Spot_need) (defBody s_Spot_need) (defScope s_Spot_need) [] [] (He.ma K (He.ga K "Spot") "need") fd := B.def_ 41
theorem D_Spot_left (B : Bk w K mg) : ∃ fd, FunD K "left" "Spot.left" (defArgs s_Spot_left) (defBody s_Spot_left) (defScope s_Spot_left) [] [] (He.ma K (He.ga K "Spot") "left") fd := B.def_ 42
theorem D_done_bring (B : Bk w K mg) : ∃ fd, FunD K "done_bring" "done_bring" (defArgs s_done_bring) (defBody s_done_bring) (defScope s_done_bring) [] [] (He.ga K "done_bring") fd := B.def_ 43
theorem D_done_give (B : Bk w K mg) : ∃ fd, FunD K "done_give" "done_give" (defArgs s_done_give) (defBody s_done_give) (defScope s_done_give) [] [] (He.ga K "done_give") fd := B.def_ 44
theorem D_need_deed (B : Bk w K mg) : ∃ fd, FunD K "need_deed" "need_deed" (defArgs s_need_deed) (defBody s_need_deed) (defScope s_need_deed) [] [] (He.ga K "need_deed") fd := B.def_ 45
theorem D_done_in (B : Bk w K mg) : ∃ fd, FunD K "done_in" "done_in" (defArgs s_done_in) (defBody s_done_in) (defScope s_done_in) [] [] (He.ga K "done_in") fd := B.def_ 46
theorem D_done_at (B : Bk w K mg) : ∃ fd, FunD K "done_at" "done_at" (defArgs s_done_at) (defBody s_done_at) (defScope s_done_at) [] [] (He.ga K "done_at") fd := B.def_ 47
theorem D_need_goal (B : Bk w K mg) : ∃ fd, FunD K "need_goal" "need_goal" (defArgs s_need_goal) (defBody s_need_goal) (defScope s_need_goal) [] [] (He.ga K "need_goal") fd := B.def_ 48
theorem D_Work_init (B : Bk w K mg) : ∃ fd, FunD K "__init__" "Work.__init__" (defArgs s_Work_init) (defBody s_Work_init) (defScope s_Work_init) [V.non] [] (He.ma K (He.ga K "Work") "__init__") fd := B.def_ 49
theorem D_Work_ground (B : Bk w K mg) : ∃ fd, FunD K "ground" "Work.ground" (defArgs s_Work_ground) (defBody s_Work_ground) (defScope s_Work_ground) [] [] (He.ma K (He.ga K "Work") "ground") fd := B.def_ 50
theorem D_Work_beneath (B : Bk w K mg) : ∃ fd, FunD K "beneath" "Work.beneath" (defArgs s_Work_beneath) (defBody s_Work_beneath) (defScope s_Work_beneath) [] [] (He.ma K (He.ga K "Work") "beneath") fd := B.def_ 51
theorem D_Work_holes (B : Bk w K mg) : ∃ fd, FunD K "holes" "Work.holes" (defArgs s_Work_holes) (defBody s_Work_holes) (defScope s_Work_holes) [] [] (He.ma K (He.ga K "Work") "holes") fd := B.def_ 52
theorem D_Work_need_hole (B : Bk w K mg) : ∃ fd, FunD K "need_hole" "Work.need_hole" (defArgs s_Work_need_hole) (defBody s_Work_need_hole) (defScope s_Work_need_hole) [] [] (He.ma K (He.ga K "Work") "need_hole") fd := B.def_ 53
theorem D_Work_goal (B : Bk w K mg) : ∃ fd, FunD K "goal" "Work.goal" (defArgs s_Work_goal) (defBody s_Work_goal) (defScope s_Work_goal) [] [] (He.ma K (He.ga K "Work") "goal") fd := B.def_ 54
theorem D_Work_deed (B : Bk w K mg) : ∃ fd, FunD K "deed" "Work.deed" (defArgs s_Work_deed) (defBody s_Work_deed) (defScope s_Work_deed) [] [] (He.ma K (He.ga K "Work") "deed") fd := B.def_ 55
theorem D_Work_left (B : Bk w K mg) : ∃ fd, FunD K "left" "Work.left" (defArgs s_Work_left) (defBody s_Work_left) (defScope s_Work_left) [] [] (He.ma K (He.ga K "Work") "left") fd := B.def_ 56
theorem D_Work_filled (B : Bk w K mg) : ∃ fd, FunD K "filled" "Work.filled" (defArgs s_Work_filled) (defBody s_Work_filled) (defScope s_Work_filled) [] [] (He.ma K (He.ga K "Work") "filled") fd := B.def_ 57
theorem D_Work_do (B : Bk w K mg) : ∃ fd, FunD K "do" "Work.do" (defArgs s_Work_do) (defBody s_Work_do) (defScope s_Work_do) [] [] (He.ma K (He.ga K "Work") "do") fd := B.def_ 58
theorem D_Work_undo (B : Bk w K mg) : ∃ fd, FunD K "undo" "Work.undo" (defArgs s_Work_undo) (defBody s_Work_undo) (defScope s_Work_undo) [] [] (He.ma K (He.ga K "Work") "undo") fd := B.def_ 59
theorem D_Work_paper (B : Bk w K mg) : ∃ fd, FunD K "paper" "Work.paper" (defArgs s_Work_paper) (defBody s_Work_paper) (defScope s_Work_paper) [] [] (He.ma K (He.ga K "Work") "paper") fd := B.def_ 60
theorem D_Work_twin (B : Bk w K mg) : ∃ fd, FunD K "twin" "Work.twin" (defArgs s_Work_twin) (defBody s_Work_twin) (defScope s_Work_twin) [] [] (He.ma K (He.ga K "Work") "twin") fd := B.def_ 61
theorem D_Work_put_back (B : Bk w K mg) : ∃ fd, FunD K "put_back" "Work.put_back" (defArgs s_Work_put_back) (defBody s_Work_put_back) (defScope s_Work_put_back) [] [] (He.ma K (He.ga K "Work") "put_back") fd := B.def_ 62
theorem D_Work_eq (B : Bk w K mg) : ∃ fd, FunD K "__eq__" "Work.__eq__" (defArgs s_Work_eq) (defBody s_Work_eq) (defScope s_Work_eq) [] [] (He.ma K (He.ga K "Work") "__eq__") fd := B.def_ 63
theorem D_Work_len (B : Bk w K mg) : ∃ fd, FunD K "__len__" "Work.__len__" (defArgs s_Work_len) (defBody s_Work_len) (defScope s_Work_len) [] [] (He.ma K (He.ga K "Work") "__len__") fd := B.def_ 64
theorem D_law_cell (B : Bk w K mg) : ∃ fd, FunD K "_law_cell" "_law_cell" (defArgs s_law_cell) (defBody s_law_cell) (defScope s_law_cell) [] [] (He.ga K "_law_cell") fd := B.def_ 65
theorem D_law_box (B : Bk w K mg) : ∃ fd, FunD K "_law_box" "_law_box" (defArgs s_law_box) (defBody s_law_box) (defScope s_law_box) [] [] (He.ga K "_law_box") fd := B.def_ 66
theorem D_law_take (B : Bk w K mg) : ∃ fd, FunD K "_law_take" "_law_take" (defArgs s_law_take) (defBody s_law_take) (defScope s_law_take) [] [] (He.ga K "_law_take") fd := B.def_ 67
theorem D_law_made (B : Bk w K mg) : ∃ fd, FunD K "_law_made" "_law_made" (defArgs s_law_made) (defBody s_law_made) (defScope s_law_made) [] [] (He.ga K "_law_made") fd := B.def_ 68
theorem D_law_right (B : Bk w K mg) : ∃ fd, FunD K "_law_right" "_law_right" (defArgs s_law_right) (defBody s_law_right) (defScope s_law_right) [] [] (He.ga K "_law_right") fd := B.def_ 69
theorem D_law (B : Bk w K mg) : ∃ fd, FunD K "law" "law" (defArgs s_law) (defBody s_law) (defScope s_law) [] [] (He.ga K "law") fd := B.def_ 70
end
end Kx
end
section
/-! zip of a text and a tuple, walked. -/
namespace Rz
open PySem PySem.Spec PyProof.Rows L2
/-- the text's signs and the tuple's items at each turn, in new pairs -/
def ItzS (K : PySem.W.Frag) (x : Str) (a : Addr) : It :=
  ⟨fun i H => ∃ ys : List V, SqT K H a ys ∧ i < x.cps.size ∧ i < ys.length,
    fun i H v H' => ∃ T c y, v = .ref T ∧ H T = none ∧ H' = upd H T (.tup [.str ⟨#[c]⟩, y]) ∧ x.cps[i]? = some c ∧ ∀ ys, SqT K H a ys → ys[i]? = some y,
    fun i H => ∃ ys : List V, SqT K H a ys ∧ i ≤ x.cps.size ∧ i ≤ ys.length ∧ (i = x.cps.size ∨ i = ys.length)⟩
theorem tup_is {h : Heap} {a : Addr} {its : Array Value} (t : IsTup h a its) : h.IsTuple a its := by
  obtain ⟨o, e, c, n, d⟩ := t
  exact ⟨o, e, c, n, d⟩
theorem turn_zipS {P : Program} {w : World} {K : PySem.W.Frag} {elts : List Expr} {kk : Nat} {tpos : Pos} {x : Str} {t : Tok} {a z TI TO i1 i2 : Addr} (S : ZipSep2 z TI TO i1 i2 [i1] [i2, a]) :
    Turn P w K (.Tuple elts kk tpos) (ItzS K x a) [z, TI, TO, i1, i2] z (fun i h => IsZip h z TI TO .none ∧ IsTupOf2 h TI (.ref i1) (.ref i2) ∧ (∃ x y, IsTupOf2 h TO x y) ∧ h.IsStrIter i1 (strIterType x) x t i ∧ h.IsTupleIter i2 a i) where
  mem := by simp
  obj := fun i h st c hc => by
    obtain ⟨hz, hTI, ⟨x, y, hTO⟩, ⟨o1, e1, _, d1⟩, ⟨o2, e2, _, d2⟩⟩ := st
    have e' : c = z ∨ c = TI ∨ c = TO ∨ c = i1 ∨ c = i2 := by simpa using hc
    rcases e' with q | q | q | q | q
    · rw [q]; exact ⟨_, hz, fun v q => nomatch q⟩
    · rw [q]; exact ⟨_, hTI, fun v q => nomatch q⟩
    · rw [q]; exact ⟨_, hTO, fun v q => nomatch q⟩
    · rw [q]; exact ⟨o1, e1, fun v q => by rw [d1] at q; cases q⟩
    · rw [q]; exact ⟨o2, e2, fun v q => by rw [d2] at q; cases q⟩
  keep := fun i h h' st k => by
    obtain ⟨hz, hTI, ⟨x, y, hTO⟩, h1, h2⟩ := st
    exact ⟨k z (by simp) _ hz, k TI (by simp) _ hTI, ⟨x, y, k TO (by simp) _ hTO⟩, (let ⟨o, e, c, d⟩ := h1; ⟨o, k i1 (by simp) o e, c, d⟩), h2.at fun o q => k i2 (by simp) o q⟩
  item := by
    intro X hP hw hK hc i pins s σ H E I hf st hg
    subst hP hw hK
    obtain ⟨hz, hTI, ⟨x0, y0, hTO⟩, h1, h2⟩ := st
    obtain ⟨ys, hqy, hx, hy⟩ := hg
    obtain ⟨its2, rv2, p2, _⟩ := I.tuple hqy
    have hzl : z < s.heap.objs.size := Heap.lt_size hz
    have D1 := Draws.text (prog := X.prog) (w := X.w) (A := X.A.in1) (I.ok.hd hc) i1 x t
    have D2 := Draws.tuple (prog := X.prog) (w := X.w) (A := X.A.in1) (I.ok.hd hc) i2 a (fun q => by
      have z2 := S.mem2
      obtain ⟨o2, e2, c2, _⟩ := h2
      obtain ⟨o3, e3, c3, _⟩ := p2
      rw [q, e2] at e3
      cases e3
      rw [c2] at c3
      exact absurd (Value.type.inj c3) (by decide)) its2.toArray
    have l2 := rv2.length
    refine wpAny_pyNext_zipD2_item S D1 D2 hz hTI hTO h1 ⟨h2, tup_is p2⟩ hx (by simp; omega) fun u u2 h' tk hu hu2 z' TO' h1' h2' hT hsz hk => ?_
    obtain ⟨c, tc, hc1, hc2⟩ := hu
    subst hc2
    refine ⟨_, rfl, wpAny_letOwnedTupleGo_zip (s := { s with heap := h', toks := tk }) z' fun h'' z'' sb => ?_⟩
    have hT2 : h''.get? s.heap.objs.size = some { cls := .type "tuple", data := .seq #[.str ⟨#[c]⟩ tc, u2] } := (sb.2 _ (Nat.ne_of_gt hzl)).trans hT
    obtain ⟨y, hyy⟩ : ∃ y, ys[i]? = some y := ⟨_, List.getElem?_eq_getElem hy⟩
    obtain ⟨u3, hu3, ru3⟩ := rv2.get hyy
    have e3 : u3 = u2 := by
      have q : its2.toArray[i]? = some u2 := hu2
      rw [List.getElem?_toArray, hu3] at q
      exact Option.some.inj q
    subst e3
    have new : ObjOk X.prog X.w (upd H s.heap.objs.size (.tup [.str ⟨#[c]⟩, y])) h'' s.heap.objs.size (.tup [.str ⟨#[c]⟩, y]) :=
      ⟨by show 2 ≤ sizeLine; decide, [.str ⟨#[c]⟩ tc, u3], .cons ⟨tc, rfl⟩ (.cons ru3 .nil), ⟨_, hT2, rfl, _, rfl⟩⟩
    have I1 : Inv X pins σ (upd H s.heap.objs.size (.tup [.str ⟨#[c]⟩, y])) { s with heap := h'', toks := tk } :=
      I.turnedNew (t' := tk) (ch := [z, TI, TO, i1, i2]) (fun c o hb q => (sb.2 c (fun q' => hb (by simp [q']))).trans (hk c o (fun q' => hb (by simp [q'])) (fun q' => hb (by simp [q'])) (fun q' => hb (by simp [q'])) (fun q' => hb (by simp [q'])) q)) hf (Nat.le_refl _) new
    refine ⟨.ref s.heap.objs.size, _, I1, rfl, ⟨_, c, y, rfl, I.hok.fresh (Nat.le_refl _), rfl, hc1, fun l hl => by rw [I.tuple_inj hl hqy]; exact hyy⟩, ⟨z'', ?_, ⟨.str ⟨#[c]⟩ tc, u3, ?_⟩, ?_, ?_⟩, fun c hcm => ?_⟩
    · exact (sb.2 _ S.TIz).trans (hk _ _ S.TIz S.TITO S.TIi1 S.TIi2 hTI)
    · exact (sb.2 _ S.TOz).trans TO'
    · obtain ⟨o, e, c, d⟩ := h1'
      exact ⟨o, (sb.2 _ (fun e => S.zi1 e.symm)).trans e, c, d⟩
    · exact h2'.1.at fun o q => (sb.2 _ (fun e => S.zi2 e.symm)).trans q
    · have hlt : c < s.heap.objs.size := by
        have e' : c = z ∨ c = TI ∨ c = TO ∨ c = i1 ∨ c = i2 := by simpa using hcm
        rcases e' with q | q | q | q | q
        · rw [q]; exact hzl
        · rw [q]; exact Heap.lt_size hTI
        · rw [q]; exact Heap.lt_size hTO
        · rw [q]; obtain ⟨_, e1, _⟩ := h1; exact Heap.lt_size e1
        · rw [q]; obtain ⟨_, e2, _⟩ := h2; exact Heap.lt_size e2
      rw [upd_ne (Nat.ne_of_lt hlt)]
      exact (hf c hcm).1
  done := by
    intro X hP hw hK hc i pins s σ H E I hf st hg
    subst hP hw hK
    obtain ⟨hz, hTI, ⟨x0, y0, hTO⟩, h1, h2⟩ := st
    obtain ⟨ys, hqy, hx, hy, hend⟩ := hg
    obtain ⟨its2, rv2, p2, _⟩ := I.tuple hqy
    have D1 := Draws.text (prog := X.prog) (w := X.w) (A := X.A.in1) (I.ok.hd hc) i1 x t
    have D2 := Draws.tuple (prog := X.prog) (w := X.w) (A := X.A.in1) (I.ok.hd hc) i2 a (fun q => by
      obtain ⟨o2, e2, c2, _⟩ := h2
      obtain ⟨o3, e3, c3, _⟩ := p2
      rw [q, e2] at e3
      cases e3
      rw [c2] at c3
      exact absurd (Value.type.inj c3) (by decide)) its2.toArray
    have l2 := rv2.length
    exact wpAny_pyNext_zipD2_end S D1 D2 hz hTI hTO h1 ⟨h2, tup_is p2⟩ hx (by simp; omega) (by simp; omega) fun h' tk hk => ⟨rfl, I.turnedL (t' := tk) (ch := [z, TI, TO, i1, i2]) (fun c o hb q =>
      hk c o (fun q' => hb (by simp [q'])) (fun q' => hb (by simp [q'])) (fun q' => hb (by simp [q'])) (fun q' => hb (by simp [q'])) q) hf⟩
  self := fun A i s Q E st h => wpAny_pyIter_zip st.1 h
def iZipS (K : PySem.W.Frag) (ta : TA) : TI := fun σ H R => ta σ H fun vs H1 => ∃ x a ys, vs = [.str x, .ref a] ∧ SqT K H1 a ys ∧ R (ItzS K x a) H1
theorem pi_zipS {X : Cx} {e e2 : Expr} {ta : TA} {p pos tpos : Pos} {elts : List Expr} {kk : Nat} (hg : Gl X "zip") (hm : X.mg "zip" = none) (ha : PA X [e, e2] ta)
    (hs : starEach [e, e2] X.env = (false, eval e X.env) :: starEach [e2] X.env := by rfl) (hpl : (backTo pos (starEach [e2] X.env)).any (·.1) = false := by rfl) :
    PI X (.Tuple elts kk tpos) (.Call (.Name "zip" p) [e, e2] [] pos) (iZipS X.K ta) := by
  refine ⟨fun pins s σ H R I h => ?_⟩
  refine Call_ (ld_blt I hg hm PyProof.Rows.boot_zip (PyProof.Rows.callWith_type1 (thn (ha.run pos pins s σ H _ I h) fun us s1 ⟨vs, H1, I1, r1, q1⟩ => ?_) hs hpl))
  obtain ⟨x, a, ys, ex, hqy, q⟩ := q1
  subst ex
  cases r1 with
  | cons r rr =>
    cases rr with
    | cons r' rr =>
      cases rr
      obtain ⟨t, rfl⟩ := r
      cases r'
      obtain ⟨its2, rv2, p2, _⟩ := I1.tuple hqy
      have la : a < s1.heap.objs.size := p2.lt
      refine zip_begins2 (begins_text x t) (begins_tuple a its2.toArray) trivial (tup_is p2) fun h' hz hTI hTO h1 h2 hsz hk => wpAny_pyIter_zip hz ?_
      have I2 : Inv X pins σ H1 { s1 with heap := h' } := I1.kept (t' := s1.toks) hk
      have S : ZipSep2 (s1.heap.objs.size + 4) (s1.heap.objs.size + 2) (s1.heap.objs.size + 3) s1.heap.objs.size (s1.heap.objs.size + 1) [s1.heap.objs.size] [s1.heap.objs.size + 1, a] :=
        zip_sep2 (fp1 := []) (fp2 := [a]) (by simp) (by simpa using la)
      refine ⟨s1.heap.objs.size + 4, [s1.heap.objs.size + 4, s1.heap.objs.size + 2, s1.heap.objs.size + 3, s1.heap.objs.size, s1.heap.objs.size + 1], _, _, H1, rfl, I2, turn_zipS (t := t) S, ⟨hz, hTI, ⟨_, _, hTO⟩, ⟨_, h1, rfl, rfl⟩, ⟨_, h2, rfl, rfl⟩⟩, fun c hcm => ?_, q⟩
      have e' : c = s1.heap.objs.size + 4 ∨ c = s1.heap.objs.size + 2 ∨ c = s1.heap.objs.size + 3 ∨ c = s1.heap.objs.size ∨ c = s1.heap.objs.size + 1 := by simpa using hcm
      have hle : s1.heap.objs.size ≤ c := by
        rcases e' with z | z | z | z | z
        · rw [z]; exact Nat.le_add_right _ _
        · rw [z]; exact Nat.le_add_right _ _
        · rw [z]; exact Nat.le_add_right _ _
        · rw [z]; exact Nat.le_refl _
        · rw [z]; exact Nat.le_add_right _ _
      exact I1.fpOk hle (I1.hok.fresh hle)
end Rz
end
section
/-! enumerate of a tuple, walked. -/
namespace Ren
open PySem PySem.Spec PyProof.Rows L2
theorem meets_new1 (a : Addr) (its : Array Value) :
    Meets (Builtin.«enumerate.__new__» ⟨[.type "enumerate", .ref a], []⟩) (fun _ R s => s.heap.IsTuple a its ∧
      R (.ok (.ret (.ref (s.heap.push { cls := .type "tuple_iterator", data := .fields #[.ref a, .int 0 0] }).objs.size)))
        { s with heap := (s.heap.push { cls := .type "tuple_iterator", data := .fields #[.ref a, .int 0 0] }).push { cls := .type "enumerate", data := .fields #[.none, .bool false, .ref s.heap.objs.size, rawInt 0, .none, .none] } }) :=
  .of_wp fun prog w A R s h => by
    obtain ⟨hp, g, d, tk, os⟩ := s; obtain ⟨h1, h⟩ := h
    have hsub := sub_enumerate
    have q1 : ∀ {A' : Around} {E : Value → Shared → Prop} {Q : Value → Shared → Prop}, Q (.ref hp.objs.size) ⟨hp.push { cls := .type "tuple_iterator", data := .fields #[.ref a, .int 0 0] }, g, d, tk, os⟩ → wpAny (model prog w) A' (pyIter (.ref a)) Q E ⟨hp, g, d, tk, os⟩ :=
      fun q => (begins_tuple a its).iter prog w _ _ ⟨hp, g, d, tk, os⟩ _ h1 q
    wp_walk
    refine wpAny_stack_any fun st => wpAny_pure ?_
    split
    · rename_i c _ _ _ _ _
      cases (c == Value.type "enumerate")
      · wp_walk using q1
        exact ⟨_, rfl, h⟩
      · wp_walk using q1
        exact ⟨_, rfl, h⟩
    · wp_walk using q1
      exact ⟨_, rfl, h⟩
theorem call_enum_tup {prog : Program} {w : World} {A : Around} {E : Value → Shared → Prop} {s : Shared} {a : Addr} {its : Array Value} {Q : Value → Shared → Prop} (hL : s.heap.IsTuple a its)
    (h : ∀ h', IsEnum h' (s.heap.objs.size + 1) s.heap.objs.size 0 .none → h'.get? s.heap.objs.size = some { cls := .type "tuple_iterator", data := .fields #[.ref a, .int 0 0] } → h'.objs.size = s.heap.objs.size + 2 →
      (∀ b o, s.heap.get? b = some o → h'.get? b = some o) → Q (.ref (s.heap.objs.size + 1)) { s with heap := h' }) :
    wpAny (model prog w) A (call (.type "enumerate") [.ref a]) Q E s := by
  refine callType_new F.called_enumerate (by decide) (F.typeCall_enumerate_1 _) (F.newCall_enumerate_1 _) (fun obj => F.args_object_init_2 obj _) F.entry_enumerate_new (meets_new1 a its) ⟨hL, ?_⟩
  have hz : (s.heap.push { cls := .type "tuple_iterator", data := .fields #[.ref a, .int 0 0] }).objs.size = s.heap.objs.size + 1 := Heap.size_push ..
  show _ ∧ _
  rw [hz]
  have he : IsEnum ((s.heap.push { cls := .type "tuple_iterator", data := .fields #[.ref a, .int 0 0] }).push
      { cls := .type "enumerate", data := .fields #[.none, .bool false, .ref s.heap.objs.size, rawInt 0, .none, .none] }) (s.heap.objs.size + 1) s.heap.objs.size 0 .none := by
    have := Heap.get?_push_size (s.heap.push { cls := .type "tuple_iterator", data := .fields #[.ref a, .int 0 0] })
      (o := { cls := .type "enumerate", data := .fields #[.none, .bool false, .ref s.heap.objs.size, rawInt 0, .none, .none] }) rfl
    rw [hz] at this; exact this
  exact ⟨⟨_, he, rfl⟩, h _ he (Heap.get?_push_of_some _ (Heap.get?_push_size _ rfl)) (by rw [Heap.size_push, hz]) fun b o x => Heap.get?_push_of_some _ (Heap.get?_push_of_some _ x)⟩
/-- the tuple at a, each item in a new pair -/
def IteT (K : PySem.W.Frag) (a : Addr) : It :=
  ⟨fun i H => ∃ (xs : List V) (x : V), SqT K H a xs ∧ xs[i]? = some x, fun i H v H' => ∃ T x, v = .ref T ∧ H T = none ∧ H' = upd H T (.tup [.int (i : Nat), x]) ∧ ∀ xs, SqT K H a xs → xs[i]? = some x, fun i H => ∃ xs : List V, SqT K H a xs ∧ xs.length = i⟩
theorem turn_enumT {P : Program} {w : World} {K : PySem.W.Frag} {elts : List Expr} {kk : Nat} {tpos : Pos} (a e it : Addr) :
    Turn P w K (.Tuple elts kk tpos) (IteT K a) [e, it] e (fun i h => (∃ old, IsEnum h e it ((i : Nat) : Int) old) ∧ h.IsTupleIter it a i ∧ e ≠ it ∧ e ≠ a) where
  mem := by simp
  obj := fun i h st b hb => by
    obtain ⟨⟨old, he⟩, ⟨o, ho, hc, hd⟩, _⟩ := st
    have e' : b = e ∨ b = it := by simpa using hb
    rcases e' with z | z
    · rw [z]; exact ⟨_, he, fun v q => nomatch q⟩
    · rw [z]; exact ⟨o, ho, fun v q => by rw [hd] at q; cases q⟩
  keep := fun i h h' st k => let ⟨⟨old, he⟩, hi, hne, hna⟩ := st; ⟨⟨old, k e (by simp) _ he⟩, hi.at fun o q => k it (by simp) o q, hne, hna⟩
  item := by
    intro X hP hw hK hc i pins s σ H E I hf st hg
    subst hP hw hK
    obtain ⟨⟨old, he⟩, hit, hne, hna⟩ := st
    obtain ⟨xs, x, hq, hx⟩ := hg
    obtain ⟨its, rv, p, hz⟩ := I.tuple hq
    obtain ⟨u, hu, ru⟩ := rv.get hx
    have hel : e < s.heap.objs.size := Heap.lt_size he
    have hil : it < s.heap.objs.size := by obtain ⟨_, q, _⟩ := hit; exact Heap.lt_size q
    have nai : a ≠ it := fun q => by
      obtain ⟨o2, e2, c2, _⟩ := hit
      obtain ⟨o3, e3, c3, _⟩ := p
      rw [q, e2] at e3
      cases e3
      rw [c2] at c3
      exact absurd (Value.type.inj c3) (by decide)
    have D := Draws.tuple (prog := X.prog) (w := X.w) (A := X.A.in1) (I.ok.hd hc) it a nai its.toArray
    have hlt : i < its.toArray.size := by
      have := (List.getElem?_eq_some_iff.mp hu).1
      simpa using this
    refine wpAny_pyNext_enum_itemD D he ⟨hit, Rz.tup_is p⟩ hlt hne (by simp [hne, hna]) fun u' h' tk hu' ho hit' hT hsz hk => ?_
    obtain rfl : u' = u := by
      have q : its.toArray[i]? = some u' := hu'
      rw [List.getElem?_toArray, hu] at q
      exact (Option.some.inj q).symm
    refine ⟨_, rfl, wpAny_letOwnedTupleGo_enum (s := { s with heap := h', toks := tk + 1 }) ho fun h'' he' sb => ?_⟩
    have hT2 : h''.get? s.heap.objs.size = some { cls := .type "tuple", data := .seq #[.int i tk, u'] } := (sb.2 _ (Nat.ne_of_gt hel)).trans hT
    have new : ObjOk X.prog X.w (upd H s.heap.objs.size (.tup [.int (i : Nat), x])) h'' s.heap.objs.size (.tup [.int (i : Nat), x]) :=
      ⟨by show 2 ≤ sizeLine; decide, [.int i tk, u'], .cons ⟨_, rfl⟩ (.cons ru .nil), ⟨_, hT2, rfl, _, rfl⟩⟩
    have I1 : Inv X pins σ (upd H s.heap.objs.size (.tup [.int (i : Nat), x])) { s with heap := h'', toks := tk + 1 } :=
      I.turnedNew (t' := tk + 1) (ch := [e, it]) (fun b ob hb q => (sb.2 b (fun z => hb (by simp [z]))).trans (hk b ob (fun z => hb (by simp [z])) (fun z => hb (by simp [z])) q)) hf (Nat.le_refl _) new
    refine ⟨.ref s.heap.objs.size, _, I1, rfl, ⟨_, x, rfl, I.hok.fresh (Nat.le_refl _), rfl, fun ys hy => by rw [I.tuple_inj hy hq]; exact hx⟩, ⟨⟨u', ?_⟩, hit'.1.at fun o q => (sb.2 it (Ne.symm hne)).trans q, hne, hna⟩, fun b hb => ?_⟩
    · have e1 : ((i + 1 : Nat) : Int) = (i : Int) + 1 := by omega
      rw [e1]; exact he'
    · have hb' : b < s.heap.objs.size := by
        have e' : b = e ∨ b = it := by simpa using hb
        rcases e' with z | z
        · rw [z]; exact hel
        · rw [z]; exact hil
      rw [upd_ne (Nat.ne_of_lt hb')]
      exact (hf b hb).1
  done := by
    intro X hP hw hK hc i pins s σ H E I hf st hg
    subst hP hw hK
    obtain ⟨⟨old, he⟩, hit, hne, hna⟩ := st
    obtain ⟨xs, hq, hx⟩ := hg
    obtain ⟨its, rv, p, hz⟩ := I.tuple hq
    obtain ⟨f0, f1, f2, f3, f4, f5⟩ := hf it (by simp)
    have nai : a ≠ it := fun q => by
      obtain ⟨o2, e2, c2, _⟩ := hit
      obtain ⟨o3, e3, c3, _⟩ := p
      rw [q, e2] at e3
      cases e3
      rw [c2] at c3
      exact absurd (Value.type.inj c3) (by decide)
    have D := Draws.tuple (prog := X.prog) (w := X.w) (A := X.A.in1) (I.ok.hd hc) it a nai its.toArray
    have hl := rv.length
    have hi : i = its.toArray.size := by simp; omega
    exact wpAny_pyNext_enum_endD D he ⟨by rw [← hi]; exact hit, Rz.tup_is p⟩ fun h' eb => ⟨rfl, I.turned (t' := s.toks) (fun b o hb q => eb b o hb q) f0 f1 f3 f4 f5⟩
  self := fun A i s Q E st h => let ⟨⟨_, he⟩, _⟩ := st; wpAny_pyIter_enum he h
def iEnumT (K : PySem.W.Frag) (ta : TA) : TI := fun σ H R => ta σ H fun vs H1 => ∃ a xs, vs = [.ref a] ∧ SqT K H1 a xs ∧ R (IteT K a) H1
theorem pi_enumT {X : Cx} {e : Expr} {ta : TA} {p pos tpos : Pos} {elts : List Expr} {kk : Nat} (hg : Gl X "enumerate") (hm : X.mg "enumerate" = none) (ha : PA X [e] ta) (hs : starEach [e] X.env = [(false, eval e X.env)] := by rfl) :
    PI X (.Tuple elts kk tpos) (.Call (.Name "enumerate" p) [e] [] pos) (iEnumT X.K ta) := by
  refine ⟨fun pins s σ H R I h => ?_⟩
  refine Call_ (ld_blt I hg hm boot_enumerate (PyProof.Rows.callWith_type1 (thn (ha.run pos pins s σ H _ I h) fun us s1 ⟨vs, H1, I1, r1, q1⟩ => ?_) hs rfl))
  obtain ⟨a, xs, ex, hq, q⟩ := q1
  subst ex
  cases r1 with
  | cons r rr =>
    cases rr
    cases r
    obtain ⟨its, rv, p', hz⟩ := I1.tuple hq
    refine call_enum_tup (Rz.tup_is p') fun h' he hit hsz hk => wpAny_pyIter_enum he ?_
    have I2 : Inv X pins σ H1 { s1 with heap := h' } := I1.kept (t' := s1.toks) hk
    refine ⟨s1.heap.objs.size + 1, [s1.heap.objs.size + 1, s1.heap.objs.size], _, _, H1, rfl, I2, turn_enumT a (s1.heap.objs.size + 1) s1.heap.objs.size, ⟨⟨.none, he⟩, ⟨_, hit, rfl, rfl⟩, Nat.succ_ne_self _, Nat.ne_of_gt (Nat.lt_succ_of_lt p'.lt)⟩, fun b hb => ?_, q⟩
    have e' : b = s1.heap.objs.size + 1 ∨ b = s1.heap.objs.size := by simpa using hb
    have hle : s1.heap.objs.size ≤ b := by
      rcases e' with z | z
      · rw [z]; exact Nat.le_add_right _ _
      · rw [z]; exact Nat.le_refl _
    exact I1.fpOk hle (I1.hok.fresh hle)
end Ren
end
section
/-! readings, step by step: each lemma goes one step into a reading -/
namespace Kx
open PySem PySem.Spec PyProof.Rows L2
/-- all but the object at l stands -/
def But (l : Addr) (H H' : Hp) : Prop := ∀ b o, b ≠ l → H b = some o → H' b = some o
theorem but_upd {H : Hp} {l : Addr} {o : HO} : But l H (upd H l o) := fun b u n e => by rw [upd_ne n]; exact e
theorem same_but {H H1 H2 : Hp} {l : Addr} (s : Same H H1) (n : H l = none) (b : But l H1 H2) : Same H H2 := fun c o e => b c o (ne_of_none e n) (s c o e)
theorem same_new {H : Hp} {p : Addr} {o : HO} (n : H p = none) : Same H (upd H p o) := fun b u e => by rw [upd_ne (ne_of_none e n)]; exact e
theorem same_seqT {K : PySem.W.Frag} {H H' : Hp} {a : Addr} {xs : List V} (s : Same H H') (h : SqT K H a xs) : SqT K H' a xs := by
  rcases h with (h | ⟨o, h⟩) | h
  · exact .inl (.inl (s _ _ h))
  · exact .inl (.inr ⟨o, s _ _ h⟩)
  · exact .inr h
section
variable {P : Program} {w : World} {K : PySem.W.Frag} {mg : Str → Option Value} {base : Heap}
variable {σ : L2.St} {H : Hp} {Q : VK} {D : Ends}
/-! ### names of the module -/
theorem pe_gi {X : Cx} {x : Str} {n : Int} {pos : Pos} (h : ∃ t, X.mg x = some (.int n t)) (hg : Gl X x := by rfl) (hd : (x == ("__debug__" : Str)) = false := by decide) : PE X (.Name x pos) (tC (.int n)) := by
  obtain ⟨t, h⟩ := h
  exact pe_glob hg h ⟨t, rfl⟩ hd
theorem pe_gs {X : Cx} {x z : Str} {pos : Pos} (h : ∃ t, X.mg x = some (.str z t)) (hg : Gl X x := by rfl) (hd : (x == ("__debug__" : Str)) = false := by decide) : PE X (.Name x pos) (tC (.str z)) := by
  obtain ⟨t, h⟩ := h
  exact pe_glob hg h ⟨t, rfl⟩ hd
/-- a target of two names -/
theorem pg_tup2 {X : Cx} {K0 : PySem.W.Frag} (hK : X.K = K0) {i j : Nat} {x y : Str} {p1 p2 tpos : Pos} {kk : Nat} (hc : X.calm = true) (hN : X.N.Nodup) (hi : X.N[i]? = some x) (hj : X.N[j]? = some y) (hx : Loc X.env.scope x) (hy : Loc X.env.scope y)
    (hfx : X.fn x = true ∨ X.env.scope.names.lookup x = some .local) (hfy : X.fn y = true ∨ X.env.scope.names.lookup y = some .local) : PG X (.Tuple [.Name x p1, .Name y p2] kk tpos) (gTup K0 2 (gCons (gName i) (gCons (gName j) gNil))) := by
  subst hK
  exact pg_tup hc (pgs_cons (pg_name hN hi hx hfx) (pgs_cons (pg_name hN hj hy hfy) pgs_nil))
/-! ### statements -/
theorem r_ret {te : TE} (h : te σ H D.rt) : tRet te D σ H := h
theorem r_retN (h : D.rt .non H) : tRetN D σ H := h
theorem r_seq {t u : TS} (h : t { D with nx := u D } σ H) : tSeq t u D σ H := h
theorem r_set {te : TE} {i : Nat} (h : te σ H fun x H1 => D.nx (σ.set i (some x)) H1) : tAsg te (gName i) D σ H := h
theorem r_asg {te : TE} {g : TG} (h : te σ H fun x H1 => g x σ H1 D.nx) : tAsg te g D σ H := h
theorem r_drop {te : TE} (h : te σ H fun _ H1 => D.nx σ H1) : tDrop te D σ H := h
theorem r_next (h : D.nx σ H) : tNext D σ H := h
theorem r_ifS {c : TT} {t u : TS} (h : c σ H fun b H1 => if b = true then t D σ H1 else u D σ H1) : tIfS c t u D σ H := h
/-! ### expressions -/
theorem r_var {i : Nat} {v : V} (h : σ[i]? = some (some v)) (q : Q v H) : tVar i σ H Q := ⟨v, h, q⟩
theorem r_c {v : V} (q : Q v H) : tC v σ H Q := q
theorem r_cb {r : List V → Hp → VK → Prop} {t : TA} (h : t σ H fun xs H1 => r xs H1 Q) : tCB r t σ H Q := h
theorem r_op {r : R2} {ta tb : TE} (h : ta σ H fun x H1 => tb σ H1 fun y H2 => r x y H2 Q) : tOp r ta tb σ H Q := h
theorem r_nil {Q : List V → Hp → Prop} (q : Q [] H) : tNil σ H Q := q
theorem r_cons {ta : TE} {tr : TA} {Q : List V → Hp → Prop} (h : ta σ H fun x H1 => tr σ H1 fun xs H2 => Q (x :: xs) H2) : tCons ta tr σ H Q := h
theorem r_call {sp : Sp} {dvs : List V} {E : XK} {t : TA} (h : t σ H fun vs H1 => sp (vs ++ dvs) H1 Q E) : tCall sp dvs E t σ H Q := h
theorem r_and {ta tb : TE} (h : ta σ H fun x H1 => ∃ c, x = .bl c ∧ if c = true then tb σ H1 Q else Q (.bl false) H1) : tAndV ta tb σ H Q := h
theorem r_or {ta tb : TE} (h : ta σ H fun x H1 => ∃ c, x = .bl c ∧ if c = true then Q (.bl true) H1 else tb σ H1 Q) : tOrV ta tb σ H Q := h
theorem r_not {ta : TE} (h : ta σ H fun x H1 => ∃ c, x = .bl c ∧ Q (.bl (!c)) H1) : tNotV ta σ H Q := h
theorem r_if {t : TT} {ta tb : TE} (h : t σ H fun c H1 => if c = true then ta σ H1 Q else tb σ H1 Q) : tIf t ta tb σ H Q := h
/-! ### tests -/
theorem r_tb {t : TE} {Q : Bool → Hp → Prop} (h : t σ H fun x H1 => ∃ c, x = .bl c ∧ Q c H1) : tB t σ H Q := h
theorem r_test {t : TE} {Q : Bool → Hp → Prop} (h : t σ H fun x H1 => ∃ c, x = .bl c ∧ Q c H1) : tTest t σ H Q := h
theorem r_tnot {t : TT} {Q : Bool → Hp → Prop} (h : t σ H fun c H1 => Q (!c) H1) : tNot t σ H Q := h
theorem r_tand {t u : TT} {Q : Bool → Hp → Prop} (h : t σ H fun c H1 => if c = true then u σ H1 Q else Q false H1) : tAnd t u σ H Q := h
theorem r_tor {t u : TT} {Q : Bool → Hp → Prop} (h : t σ H fun c H1 => if c = true then Q true H1 else u σ H1 Q) : tOr t u σ H Q := h
theorem r_bl {b : Bool} {R : Bool → Prop} (h : R b) : ∃ c, V.bl b = V.bl c ∧ R c := ⟨b, rfl, h⟩
theorem r_chain {r r' : R2} {ta tb tc : TE} (h : ta σ H fun x H1 => tb σ H1 fun y H2 => r x y H2 fun z H3 => ∃ k, z = .bl k ∧ (if k = true then tc σ H3 fun w' H4 => r' y w' H4 Q else Q (.bl false) H3)) : tChain r r' ta tb tc σ H Q := h
/-! ### operators -/
theorem r_i0 {g : Int → Int → V} {i j : Int} (h : Q (g i j) H) : rI0 g (.int i) (.int j) H Q := ⟨i, j, rfl, rfl, h⟩
theorem r_eqI {i j : Int} (h : Q (.bl (decide (i = j))) H) : rEq (.int i) (.int j) H Q := ⟨rfl, by
  have e : decide (V.int i = V.int j) = decide (i = j) := by simp
  rw [e]; exact h⟩
theorem r_eqS {i j : Str} (h : Q (.bl (decide (i = j))) H) : rEq (.str i) (.str j) H Q := ⟨rfl, by
  have e : decide (V.str i = V.str j) = decide (i = j) := by simp
  rw [e]; exact h⟩
theorem r_neI {i j : Int} (h : Q (.bl (!decide (i = j))) H) : rNe (.int i) (.int j) H Q := ⟨rfl, by
  have e : decide (V.int i = V.int j) = decide (i = j) := by simp
  rw [e]; exact h⟩
theorem r_neS {i j : Str} (h : Q (.bl (!decide (i = j))) H) : rNe (.str i) (.str j) H Q := ⟨rfl, by
  have e : decide (V.str i = V.str j) = decide (i = j) := by simp
  rw [e]; exact h⟩
theorem r_neB {i j : Bool} (h : Q (.bl (!decide (i = j))) H) : rNe (.bl i) (.bl j) H Q := ⟨rfl, by
  have e : decide (V.bl i = V.bl j) = decide (i = j) := by simp
  rw [e]; exact h⟩
/-! ### isinstance of built-in classes -/
theorem r_isi {x : V} {t n : String} {b : Bool} (ty : TyX K H x (.type t)) (e : kitB t n = some b) (h : Q (.bl b) H) : rIsi K [x, .ty n] H Q := ⟨x, .ty n, _, _, b, rfl, .ty n, ty, kit_ty e, h⟩
theorem r_isi_int {i : Int} (h : Q (.bl true) H) : rIsi K [.int i, .ty "int"] H Q := r_isi (.base (.int i)) (by decide +kernel) h
theorem r_isi_int_bool {i : Int} (h : Q (.bl false) H) : rIsi K [.int i, .ty "bool"] H Q := r_isi (.base (.int i)) (by decide +kernel) h
theorem r_isi_str {i : Str} (h : Q (.bl true) H) : rIsi K [.str i, .ty "str"] H Q := r_isi (.base (.str i)) (by decide +kernel) h
theorem r_isi_tup {a : Addr} {xs : List V} (e : H a = some (.tup xs)) (h : Q (.bl true) H) : rIsi K [.ref a, .ty "tuple"] H Q := r_isi (.base (.tup e)) (by decide +kernel) h
/-! ### texts, sequences -/
def rLenS : List V → Hp → VK → Prop := fun xs H Q => ∃ z, xs = [V.str z] ∧ z.length ≤ sizeLine ∧ Q (.int z.length) H
def rLenQ (K : PySem.W.Frag) : List V → Hp → VK → Prop := fun xs H Q => ∃ p ys, xs = [V.ref p] ∧ (SqL K H p ys ∨ SqT K H p ys) ∧ Q (.int ys.length) H
def rListOf (K : PySem.W.Frag) : List V → Hp → VK → Prop := fun xs H Q => ∃ p ys, xs = [V.ref p] ∧ (SqL K H p ys ∨ SqT K H p ys) ∧ ∀ l, H l = none → Q (.ref l) (upd H l (.lst ys))
def rTupOf (K : PySem.W.Frag) : List V → Hp → VK → Prop := fun xs H Q => ∃ p ys, xs = [V.ref p] ∧ ((SqL K H p ys ∧ ∀ l, H l = none → Q (.ref l) (upd H l (.tup ys))) ∨ (SqT K H p ys ∧ Q (.ref p) H))
def rMax2 : List V → Hp → VK → Prop := fun xs H Q => ∃ i j : Int, xs = [V.int i, V.int j] ∧ Q (.int (if j > i then j else i)) H
def rInStr : R2 := fun x y H Q => ∃ i j : Str, x = V.str i ∧ y = V.str j ∧ Q (.bl (!(Builtin.Str.occurrences j i 0 j.length 1).isEmpty)) H
def rIsN : R2 := fun x y H Q => y = V.non ∧ Q (.bl (decide (x = .non))) H
def rNotN : R2 := fun x y H Q => y = V.non ∧ Q (.bl (!decide (x = .non))) H
section
variable {X : Cx}
theorem call_lenS : CallR X (.builtin "len") rLenS := call_len_str
theorem call_lenQ : CallR X (.builtin "len") (rLenQ X.K) := call_len_seq
theorem call_listOf : CallR X (.type "list") (rListOf X.K) := call_list_of
theorem call_tupOf : CallR X (.type "tuple") (rTupOf X.K) := call_tuple_of
theorem call_maxI (hc : X.calm = true) : CallR X (.builtin "max") rMax2 := call_max2 hc
theorem op_inS : OpR X (compareOp .In) rInStr := op_in_str
theorem op_isNo : OpR X (compareOp .Is) rIsN := op_isN
theorem op_notNo : OpR X (compareOp .IsNot) rNotN := op_notN
end
theorem r_lenS {z : Str} (hz : z.length ≤ sizeLine) (h : Q (.int z.length) H) : rLenS [.str z] H Q := ⟨z, rfl, hz, h⟩
theorem r_lenT {p : Addr} {ys : List V} (hp : SqT K H p ys) (h : Q (.int ys.length) H) : rLenQ K [.ref p] H Q := ⟨p, ys, rfl, .inr hp, h⟩
theorem r_lenL {p : Addr} {ys : List V} (hp : SqL K H p ys) (h : Q (.int ys.length) H) : rLenQ K [.ref p] H Q := ⟨p, ys, rfl, .inl hp, h⟩
theorem r_listL {p : Addr} {ys : List V} (hp : SqL K H p ys) (h : ∀ l, H l = none → Q (.ref l) (upd H l (.lst ys))) : rListOf K [.ref p] H Q := ⟨p, ys, rfl, .inl hp, h⟩
theorem r_listT {p : Addr} {ys : List V} (hp : SqT K H p ys) (h : ∀ l, H l = none → Q (.ref l) (upd H l (.lst ys))) : rListOf K [.ref p] H Q := ⟨p, ys, rfl, .inr hp, h⟩
theorem r_tupL {p : Addr} {ys : List V} (hp : SqL K H p ys) (h : ∀ l, H l = none → Q (.ref l) (upd H l (.tup ys))) : rTupOf K [.ref p] H Q := ⟨p, ys, rfl, .inl ⟨hp, h⟩⟩
theorem r_tupT {p : Addr} {ys : List V} (hp : SqT K H p ys) (h : Q (.ref p) H) : rTupOf K [.ref p] H Q := ⟨p, ys, rfl, .inr ⟨hp, h⟩⟩
theorem r_max {i j : Int} (h : Q (.int (if j > i then j else i)) H) : rMax2 [.int i, .int j] H Q := ⟨i, j, rfl, h⟩
theorem r_inS {i j : Str} (h : Q (.bl (!(Builtin.Str.occurrences j i 0 j.length 1).isEmpty)) H) : rInStr (.str i) (.str j) H Q := ⟨i, j, rfl, rfl, h⟩
theorem r_isNN (h : Q (.bl true) H) : rIsN .non .non H Q := ⟨rfl, h⟩
theorem r_isNR {a : Addr} (h : Q (.bl false) H) : rIsN (.ref a) .non H Q := ⟨rfl, h⟩
theorem r_notNN (h : Q (.bl false) H) : rNotN .non .non H Q := ⟨rfl, h⟩
theorem r_notNR {a : Addr} (h : Q (.bl true) H) : rNotN (.ref a) .non H Q := ⟨rfl, h⟩
theorem r_nd {b : Bool} (h : b = false) : (!b) = true := by rw [h] <;> rfl
theorem r_nt {b : Bool} (h : b = true) : (!b) = false := by rw [h] <;> rfl
theorem r_sl {r : V → Option Int → Option Int → Hp → VK → Prop} {te : TE} {tl th : TO} (h : te σ H fun x H1 => tl σ H1 fun l H2 => th σ H2 fun u H3 => r x l u H3 Q) : tSl r te tl th σ H Q := h
theorem r_part {te : TE} {Q : Option Int → Hp → Prop} (h : te σ H fun x H1 => ∃ i, x = .int i ∧ Q (some i) H1) : tPart te σ H Q := h
theorem r_nopart {Q : Option Int → Hp → Prop} (h : Q none H) : tNoPart σ H Q := h
theorem cut1 (x : V) (xs : List V) : cutV (x :: xs) (some 1) none = xs := by
  have e : HT.sIx (x :: xs).length 0 (some 1) = 1 := by
    have q := HT.sIx_nat (x :: xs).length 0 1
    rw [show (some (1 : Int)) = some ((1 : Nat) : Int) from rfl, q]
    simp only [List.length_cons]
    omega
  unfold cutV
  rw [e, HT.sIx_none]
  simp
theorem r_slT1 {a : Addr} {x : V} {xs : List V} (hp : SqT K H a (x :: xs)) (h : ∀ p, H p = none → Q (.ref p) (upd H p (.tup xs))) : rSlT K (.ref a) (some 1) none H Q := by
  have e : HT.sIx (x :: xs).length 0 (some 1) = 1 := by
    have q := HT.sIx_nat (x :: xs).length 0 1
    rw [show (some (1 : Int)) = some ((1 : Nat) : Int) from rfl, q]
    simp only [List.length_cons]
    omega
  refine ⟨a, x :: xs, rfl, hp, fun z => ?_, ?_⟩
  · rw [e] at z
    exact absurd z.1 (by decide)
  · rw [cut1]
    exact h
theorem r_gTup2 {a : Addr} {i j : Nat} {x y : V} {Q : L2.St → Hp → Prop} (hp : SqT K H a [x, y]) (h : Q ((σ.set i (some x)).set j (some y)) H) : gTup K 2 (gCons (gName i) (gCons (gName j) gNil)) (.ref a) σ H Q :=
  ⟨a, [x, y], rfl, hp, rfl, x, [y], rfl, y, [], rfl, rfl, h⟩
theorem iteNT {A B : Prop} (h : B) : if (!true) = true then A else B := h
theorem iteNF {A B : Prop} (h : A) : if (!false) = true then A else B := by
  show if true = true then A else B
  rw [if_pos rfl]
  exact h
theorem iteOf {c : Bool} {A B : Prop} (hc : c = true) (h : A) : if c = true then A else B := by
  rw [if_pos hc]
  exact h
theorem iteOff {c : Bool} {A B : Prop} (hc : c = false) (h : B) : if c = true then A else B := by
  rw [hc, if_neg Bool.false_ne_true]
  exact h
theorem r_ixT {p : Addr} {xs : List V} {i : Nat} {v : V} (hp : SqT K H p xs) (e : xs[i]? = some v) (h : Q v H) : rIxT K (.ref p) (.int (i : Int)) H Q := ⟨p, xs, i, v, rfl, rfl, hp, atI_nat e, h⟩
theorem r_ixL {p : Addr} {xs : List V} {i : Nat} {v : V} (hp : SqL K H p xs) (e : xs[i]? = some v) (h : Q v H) : rIxL K (.ref p) (.int (i : Int)) H Q := ⟨p, xs, i, v, rfl, rfl, hp, atI_nat e, h⟩
theorem r_ixT0 {p : Addr} {xs : List V} {v : V} (hp : SqT K H p xs) (e : xs[0]? = some v) (h : Q v H) : rIxT K (.ref p) (.int 0) H Q := r_ixT (i := 0) hp e h
theorem r_ixL0 {p : Addr} {xs : List V} {v : V} (hp : SqL K H p xs) (e : xs[0]? = some v) (h : Q v H) : rIxL K (.ref p) (.int 0) H Q := r_ixL (i := 0) hp e h
theorem r_ixT1 {p : Addr} {xs : List V} {v : V} (hp : SqT K H p xs) (e : xs[1]? = some v) (h : Q v H) : rIxT K (.ref p) (.int 1) H Q := r_ixT (i := 1) hp e h
theorem r_ixL1 {p : Addr} {xs : List V} {v : V} (hp : SqL K H p xs) (e : xs[1]? = some v) (h : Q v H) : rIxL K (.ref p) (.int 1) H Q := r_ixL (i := 1) hp e h
theorem r_ixT2 {p : Addr} {xs : List V} {v : V} (hp : SqT K H p xs) (e : xs[2]? = some v) (h : Q v H) : rIxT K (.ref p) (.int 2) H Q := r_ixT (i := 2) hp e h
theorem r_ixL2 {p : Addr} {xs : List V} {v : V} (hp : SqL K H p xs) (e : xs[2]? = some v) (h : Q v H) : rIxL K (.ref p) (.int 2) H Q := r_ixL (i := 2) hp e h
theorem r_ixT3 {p : Addr} {xs : List V} {v : V} (hp : SqT K H p xs) (e : xs[3]? = some v) (h : Q v H) : rIxT K (.ref p) (.int 3) H Q := r_ixT (i := 3) hp e h
theorem r_ixL3 {p : Addr} {xs : List V} {v : V} (hp : SqL K H p xs) (e : xs[3]? = some v) (h : Q v H) : rIxL K (.ref p) (.int 3) H Q := r_ixL (i := 3) hp e h
/-! ### new objects -/
theorem r_new {o : HO} (h : ∀ p H', H p = none → H' p = some o → Same H H' → Q (.ref p) H') : ∀ p, H p = none → Q (.ref p) (upd H p o) := fun p n => h p _ n upd_same (same_new n)
theorem r_al {H : Hp} {R : Addr → Prop} (h : ∀ p, H p = none → R p) : ∀ p, H p = none → R p := h
theorem r_le {n : Nat} {R : Prop} (hn : n ≤ 1000) (h : R) : n ≤ sizeLine ∧ R := ⟨Nat.le_of_lt (small1000 hn), h⟩
theorem r_tup {t : TA} (h : t σ H fun xs H1 => xs.length ≤ sizeLine ∧ ∀ p, H1 p = none → Q (.ref p) (upd H1 p (.tup xs))) : tTup t σ H Q := h
theorem r_lst {t : TA} (h : t σ H fun xs H1 => xs.length ≤ sizeLine ∧ ∀ p, H1 p = none → Q (.ref p) (upd H1 p (.lst xs))) : tLst t σ H Q := h
theorem small_le {n : Nat} (h : n ≤ 1000) : n ≤ sizeLine := Nat.le_of_lt (small1000 h)
/-- what is asked of a comprehension (without tests) when its iterator J has come -/
def LcGo (g : TG) (te : TE) (vs : List Nat) (σ : L2.St) (Q : VK) (J : It) (H : Hp) : Prop :=
    ∀ L, H L = none → ∃ W : Nat → Nat → Hp → Prop, (∃ m, W 0 m (upd H L (.lst []))) ∧ ∀ i m H, W i m H →
      (J.stop i H ∧ Q (.ref L) H) ∨ (J.go i H ∧ ∃ Nx : Hp → Prop, (∀ H', Nx H' → ∃ m', m' < m ∧ W (i + 1) m' H') ∧ ∀ x H', J.yld i H x H' → g x (wipe σ vs) H' fun σ2 H2 => wipe σ2 vs = wipe σ vs ∧ tYes σ2 H2 fun b H3 =>
        if b = true then te σ2 H3 fun y H4 => ∃ acc, H4 L = some (.lst acc) ∧ acc.length < sizeLine ∧ Nx (upd H4 L (.lst (acc ++ [y]))) else Nx H3)
/-! ### a comprehension without tests, each turn gives one thing and leaves what stood -/
theorem lc_map {J : It} {g : TG} {te : TE} {vs : List Nat} (n : Nat) (hn : n ≤ sizeLine) (P : Nat → V → Hp → Prop) (hP : ∀ i y H H', P i y H → (∀ b o, H b = some o → (∀ xs, o ≠ .lst xs) → H' b = some o) → P i y H')
    (hgo : ∀ i H', i < n → Same H H' → J.go i H') (hstop : ∀ H', Same H H' → J.stop n H')
    (turn : ∀ i x H1 H2 (R : V → Hp → Prop), i < n → Same H H1 → J.yld i H1 x H2 → (∀ y H4, Same H1 H4 → P i y H4 → R y H4) → g x (wipe σ vs) H2 fun σ2 H3 => wipe σ2 vs = wipe σ vs ∧ te σ2 H3 R)
    (done : ∀ L ys H', H L = none → Same H H' → H' L = some (.lst ys) → ys.length = n → (∀ i y, ys[i]? = some y → P i y H') → Q (.ref L) H') :
    LcGo g te vs σ Q J H := by
  intro L hL
  refine ⟨fun i m H1 => Same H H1 ∧ i + m = n ∧ ∃ acc, H1 L = some (.lst acc) ∧ acc.length = i ∧ ∀ j y, acc[j]? = some y → P j y H1, ⟨n, same_new hL, by omega, [], upd_same, rfl, fun j y e => by simp at e⟩, ?_⟩
  rintro i m H1 ⟨s1, him, acc, hacc, hl, hall⟩
  cases m with
  | zero =>
    have e : i = n := by omega
    subst e
    exact .inl ⟨hstop H1 s1, done L acc H1 hL s1 hacc hl hall⟩
  | succ m =>
    refine .inr ⟨hgo i H1 (by omega) s1, fun H' => Same H H' ∧ (i + 1) + m = n ∧ ∃ acc, H' L = some (.lst acc) ∧ acc.length = i + 1 ∧ ∀ j y, acc[j]? = some y → P j y H', fun H' hx => ⟨m, by omega, hx⟩, fun x H2 hy => ?_⟩
    have t := turn i x H1 H2 (fun y H4 => ∃ acc, H4 L = some (.lst acc) ∧ acc.length < sizeLine ∧ (fun H' => Same H H' ∧ (i + 1) + m = n ∧ ∃ acc, H' L = some (.lst acc) ∧ acc.length = i + 1 ∧ ∀ j y, acc[j]? = some y → P j y H') (upd H4 L (.lst (acc ++ [y])))) (by omega) s1 hy fun y H4 s4 py => ?_
    · have e2 : (fun (σ2 : L2.St) (H3 : Hp) => wipe σ2 vs = wipe σ vs ∧ tYes σ2 H3 fun b H5 => if b = true then te σ2 H5 fun y H4 => ∃ acc, H4 L = some (.lst acc) ∧ acc.length < sizeLine ∧ (fun H' => Same H H' ∧ (i + 1) + m = n ∧ ∃ acc, H' L = some (.lst acc) ∧ acc.length = i + 1 ∧ ∀ j y, acc[j]? = some y → P j y H') (upd H4 L (.lst (acc ++ [y]))) else (fun H' => Same H H' ∧ (i + 1) + m = n ∧ ∃ acc, H' L = some (.lst acc) ∧ acc.length = i + 1 ∧ ∀ j y, acc[j]? = some y → P j y H') H5)
        = fun σ2 H3 => wipe σ2 vs = wipe σ vs ∧ te σ2 H3 fun y H4 => ∃ acc, H4 L = some (.lst acc) ∧ acc.length < sizeLine ∧ (fun H' => Same H H' ∧ (i + 1) + m = n ∧ ∃ acc, H' L = some (.lst acc) ∧ acc.length = i + 1 ∧ ∀ j y, acc[j]? = some y → P j y H') (upd H4 L (.lst (acc ++ [y]))) := by
        funext σ2 H3
        simp only [tYes, if_true]
      rw [e2]
      exact t
    · have a4 : H4 L = some (.lst acc) := s4 _ _ hacc
      have bt : ∀ b o, H4 b = some o → (∀ xs, o ≠ .lst xs) → upd H4 L (.lst (acc ++ [y])) b = some o := fun b o e no => by
        rw [upd_ne fun z => by rw [z, a4] at e; exact no acc (Option.some.inj e).symm]
        exact e
      refine ⟨acc, a4, by omega, same_but (s1.trans s4) hL but_upd, by omega, acc ++ [y], upd_same, by rw [List.length_append, hl]; rfl, fun j z e => ?_⟩
      by_cases hj : j < acc.length
      · rw [List.getElem?_append_left hj] at e
        exact hP j z H4 _ (hP j z H1 _ (hall j z e) fun b o e no => s4 b o e) bt
      · rw [List.getElem?_append_right (by omega)] at e
        have hj2 : j = i := by
          have := (List.getElem?_eq_some_iff.mp e).1
          simp at this
          omega
        subst hj2
        rw [hl, Nat.sub_self] at e
        have ez : y = z := Option.some.inj e
        rw [← ez]
        exact hP j y H4 _ py bt
theorem r_lc {wi : TI} {g : TG} {te : TE} {vs : List Nat} (h : wi σ H (LcGo g te vs σ Q)) : tLc wi g tYes te vs σ H Q := h
theorem r_iStr {te : TE} {R : It → Hp → Prop} (h : te σ H fun v H1 => ∃ x, v = .str x ∧ R (Its x) H1) : iStr te σ H R := h
theorem r_gName {i : Nat} {v : V} {Q : L2.St → Hp → Prop} (h : Q (σ.set i (some v)) H) : gName i v σ H Q := h
theorem r_inT {x : V} {p : Addr} {xs : List V} (hp : SqT K H p xs) (f : flatV x = true) (fa : xs.all flatV = true) (q : Q (.bl (inV x xs)) H) : rIn K false x (.ref p) H Q := ⟨p, xs, rfl, .inr hp, f, fa, q⟩
theorem all_bl : ∀ {ys : List V}, (∀ (i : Nat) (y : V), ys[i]? = some y → y = V.bl true) → ys = (List.replicate ys.length true).map V.bl
  | [], _ => rfl
  | y :: ys, h => by
    have e := h 0 y rfl
    have ih := all_bl (ys := ys) fun i z q => h (i + 1) z q
    show y :: ys = V.bl true :: (List.replicate ys.length true).map V.bl
    rw [e, ← ih]
theorem all_rep (n : Nat) : (List.replicate n true).all id = true := by
  induction n with
  | zero => rfl
  | succ n ih => exact ih
theorem r_allT {L : Addr} {ys : List V} (hL : H L = some (.lst ys)) (hall : ∀ (i : Nat) (y : V), ys[i]? = some y → y = V.bl true) (q : Q (.bl true) H) : rAll K [.ref L] H Q := by
  refine ⟨L, List.replicate ys.length true, rfl, ?_, ?_⟩
  · rw [← all_bl hall]
    exact SqL.of hL
  · rw [all_rep]
    exact q
/-- what is asked of a for when its iterator J has come -/
def ForGo (g : TG) (tb : TS) (D : Ends) (σ : L2.St) (J : It) (H : Hp) : Prop :=
    ∃ W : Nat → Nat → L2.St → Hp → Prop, (∃ m, W 0 m σ H) ∧ ∀ i m σ H, W i m σ H →
      (J.stop i H ∧ D.nx σ H) ∨ (J.go i H ∧ ∃ N : L2.St → Hp → Prop, (∀ σ' H', N σ' H' → ∃ m', m' < m ∧ W (i + 1) m' σ' H') ∧ ∀ x H', J.yld i H x H' → g x σ H' fun σ2 H2 => tb { D with nx := N, ct := N, bk := D.nx } σ2 H2)
theorem r_for {wi : TI} {g : TG} {tb : TS} (h : wi σ H (ForGo g tb D σ)) : tFor wi g tb D σ H := h
theorem r_iList {tl : TE} {R : It → Hp → Prop} (h : tl σ H fun x H1 => ∃ a, x = .ref a ∧ (∃ xs, SqL K H1 a xs) ∧ R (Itl K a) H1) : iList K tl σ H R := h
theorem r_iTup {tl : TE} {R : It → Hp → Prop} (h : tl σ H fun x H1 => ∃ a, x = .ref a ∧ (∃ xs, SqT K H1 a xs) ∧ R (Itt K a) H1) : iTup K tl σ H R := h
theorem r_iEnum {ta : TA} {R : It → Hp → Prop} (h : ta σ H fun vs H1 => ∃ a xs, vs = [.ref a] ∧ SqL K H1 a xs ∧ R (Ite K a) H1) : iEnum K ta σ H R := h
theorem r_iZipS {ta : TA} {R : It → Hp → Prop} (h : ta σ H fun vs H1 => ∃ x a ys, vs = [.str x, .ref a] ∧ SqT K H1 a ys ∧ R (Rz.ItzS K x a) H1) : Rz.iZipS K ta σ H R := h
/-- a loop of n turns by what holds ahead of each -/
theorem for_go {J : It} {g : TG} {tb : TS} (n : Nat) (Pv : Nat → L2.St → Hp → Prop) (h0 : Pv 0 σ H) (hgo : ∀ i σ H, i < n → Pv i σ H → J.go i H) (hstop : ∀ σ H, Pv n σ H → J.stop n H)
    (turn : ∀ i σ x H H', i < n → Pv i σ H → J.yld i H x H' → g x σ H' fun σ2 H2 => tb { D with nx := Pv (i + 1), ct := Pv (i + 1), bk := D.nx } σ2 H2) (done : ∀ σ H, Pv n σ H → D.nx σ H) : ForGo g tb D σ J H := by
  refine ⟨fun i m σ H => i + m = n ∧ Pv i σ H, ⟨n, by omega, h0⟩, ?_⟩
  rintro i m σ H ⟨him, p⟩
  cases m with
  | zero =>
    have e : i = n := by omega
    subst e
    exact .inl ⟨hstop σ H p, done σ H p⟩
  | succ m => exact .inr ⟨hgo i σ H (by omega) p, Pv (i + 1), fun σ' H' q => ⟨m, by omega, by omega, q⟩, fun x H' y => turn i σ x H H' (by omega) p y⟩
/-! ### a written dict asked -/
def rNotInD (K : PySem.W.Frag) (w : World) : R2 := fun x y H Q => ∃ p z u, x = .str z ∧ y = .ref p ∧ (∃ es n, KDict K w p es n) ∧ PySem.W.nsIn K p z = some (some u) ∧ Q (.bl false) H
theorem op_notInD {X : Cx} : OpR X (compareOp .NotIn) (rNotInD X.K X.w) := by
  intro pins s σ H x y v u Q I rx ry h
  obtain ⟨p, z, u0, rfl, rfl, ⟨es, n, D⟩, e, q⟩ := h
  exact op_notIn_kd D pins s σ H _ _ v u Q I rx ry ⟨z, some u0, rfl, rfl, e, q⟩
def rInD (K : PySem.W.Frag) (w : World) : R2 := fun x y H Q => ∃ p z u, x = .str z ∧ y = .ref p ∧ (∃ es n, KDict K w p es n) ∧ PySem.W.nsIn K p z = some u ∧ Q (.bl u.isSome) H
theorem op_inD {X : Cx} : OpR X (compareOp .In) (rInD X.K X.w) := by
  intro pins s σ H x y v u Q I rx ry h
  obtain ⟨p, z, u0, rfl, rfl, ⟨es, n, D⟩, e, q⟩ := h
  exact op_in_kd D pins s σ H _ _ v u Q I rx ry ⟨z, u0, rfl, rfl, e, q⟩
theorem r_notInD {p : Addr} {z : Str} {u : Value} {H : Hp} {Q : VK} (D : ∃ es n, KDict K w p es n) (e : PySem.W.nsIn K p z = some (some u)) (h : Q (.bl false) H) : rNotInD K w (.str z) (.ref p) H Q := ⟨p, z, u, rfl, rfl, D, e, h⟩
theorem r_ixD {p : Addr} {z : Str} {u : Value} {v : V} {H : Hp} {Q : VK} (D : ∃ es n, KDict K w p es n) (e : PySem.W.nsIn K p z = some (some u)) (r : RelV v u) (h : Q v H) : rIxD K w (.ref p) (.str z) H Q := by
  obtain ⟨es, n, D⟩ := D
  exact ⟨p, z, v, rfl, rfl, ⟨es, n, u, D.at_, D.lit, e, r⟩, h⟩
end
end Kx
end
section
/-! lambdas that outlive their def: made, kept, called later. -/
namespace Kl
open PySem PySem.Spec PyProof.Rows L2 LamX NdefX
/-- a lambda's words, its captured cells, its code object -/
structure LM where
  qual : Str
  params : Arguments
  body : Expr
  scope : Scope
  cl : List (Str × Addr)
  c : Addr
abbrev LM.fd (M : LM) (pm ctv : Value) : FuncData := PySem.W.kla_fn "<lambda>" M.qual M.params M.body M.scope M.cl pm (.ref M.c) ctv
/-- the object at f is the lambda M -/
def LamO (f : Addr) (M : LM) : HO := .ext fun h => ∃ (od : Option Addr) (sl : Array (Option Value)) (pm ctv : Value), h.get? f = some (⟨.type "function", od, .func (M.fd pm ctv), sl⟩ : Obj)
/-- the cell at c holds v -/
def CellO (c : Addr) (v : V) : HO := .ext fun h => ∃ u, RelV v u ∧ h.IsCell c (some u)
section
variable {X : Cx} {pins : List (Addr × Obj)} {σ : L2.St} {H : Hp} {s : Shared}
theorem inv_lam {M : LM} {o : Obj} {t' : Nat} {pm ctv : Value} (I : Inv X pins σ H s) (ho : o = { cls := .type "function", data := .func (M.fd pm ctv) }) :
    Inv X pins σ (upd H s.heap.objs.size (LamO s.heap.objs.size M)) { s with heap := s.heap.push o, toks := t' } := by
  subst ho
  refine I.laid (a := s.heap.objs.size) (fun b u e => Heap.get?_push_of_some _ e) (Nat.le_refl _) ?_
  have e : (s.heap.push ({ cls := .type "function", data := .func (M.fd pm ctv) } : Obj)).get? s.heap.objs.size = some ({ cls := .type "function", data := .func (M.fd pm ctv) } : Obj) := Heap.get?_push_size _ rfl
  exact ⟨⟨_, _, pm, ctv, e⟩, ⟨_, e⟩, fun h1 h2 ⟨od, sl, p, t, z⟩ st => ⟨od, sl, p, t, st _ z⟩⟩
/-- the lambda is made -/
theorem lam_made {T : List NTab} {nm : Nat → Nat → Str} {c P : Addr} {params : Arguments} {body : Expr} {scope : Scope} {pos : Pos} {E : Value → Shared → Prop} {Q : Value → Shared → Prop} (I : Inv X pins σ H s) (TB : TabB X.base X.mg c P) (hcode : X.env.code = .ref c)
    (hm : (P, nm) ∈ T) (hn : nm pos.line pos.col = X.env.qual ++ "<lambda>") (hu : ∀ p ∈ T, p.1 = P → p.2 = nm) (hT : TabsN T H) (hfree : ∀ y ∈ scope.names, y.2 = .free → ∃ c, X.env.cells.lookup y.1 = some c)
    (h : ∀ (f c' : Addr) (H1 : Hp) (s' : Shared), Inv X pins σ H1 s' → ExtN H H1 → (∀ b, H1 b = Option.none → H b = Option.none) → TabsN T H1 → H f = none → H1 f = some (LamO f ⟨X.env.qual ++ "<lambda>", params, body, scope, cloFrom X.env.cells scope.names [], c'⟩) → H1 c' = some (CodeO c' (X.env.qual ++ "<lambda>")) → Q (.ref f) s') :
    wpAny (model X.prog X.w) X.A (makeFunction "<lambda>" (X.env.qual ++ "<lambda>") params (.expr body) scope X.env [] [] [] pos pos.line) Q E s := by
  obtain ⟨ps, hP, ht, ha⟩ := (show TabN H P nm from hT _ hm)
  have bP : s.heap.BuiltinsAt X.mg P := TB.bm.keeps I.bk
  have hP' : s.heap.get? P = some { cls := .none, data := .fields ps } := I.hok P _ hP
  cases hc : codeAmong pos ps.toList with
  | none =>
    refine PySem.W.kla_makeFunction (mg := X.mg) (c := c) (P := P) (ps := ps) (closure_ok hfree) I.ok.glob (I.mod.glob.keeps I.bk) hcode (TB.code.keeps I.bk) hP' ht hc TB.gP bP fun c' ctv h' tk hx hge hlt hrec htb => ?_
    obtain ⟨c2, oc, vs, t, e2, hoc, hd, hv⟩ := hrec
    cases e2
    have nC : H c' = none := I.hok.fresh hge
    have I1 := inv_table (t' := tk) (more := #[rawInt pos.line, rawInt pos.col, .ref c']) (h' := h') I hP (fun b o hb e => hx b o hb e) htb hge ⟨oc, vs, t, hoc, hd, hv⟩
    have hE : ExtN H (upd (upd H P (.tbl (ps ++ #[rawInt pos.line, rawInt pos.col, .ref c']))) c' (CodeO c' (X.env.qual ++ "<lambda>"))) := fun b o e n => by
      rw [upd_ne (ne_of_none e nC), upd_ne (fun z => n ps (Option.some.inj (e.symm.trans (by rw [z]; exact hP))))]
      exact e
    have eL : (ps ++ #[rawInt pos.line, rawInt pos.col, .ref c']).toList = ps.toList ++ [rawInt pos.line, rawInt pos.col, .ref c'] := by simp
    have T1 : TabsN T (upd (upd H P (.tbl (ps ++ #[rawInt pos.line, rawInt pos.col, .ref c']))) c' (CodeO c' (X.env.qual ++ "<lambda>"))) := fun p hp => by
      by_cases hb : p.1 = P
      · rw [hu p hp hb, hb]
        refine ⟨_, by rw [upd_ne (ne_of_none hP nC), upd_same], by rw [eL]; exact PySem.TriplesOk_snoc _ _ _ _ ht, fun p' cv hcv => ?_⟩
        rw [eL] at hcv
        rcases among_app2 _ ht hcv with z | ⟨z, z1, z2⟩
        · obtain ⟨c0, e1, e2⟩ := ha p' cv z
          exact ⟨c0, e1, hE _ _ e2 codeO_ne⟩
        · refine ⟨c', z, ?_⟩
          rw [← z1, ← z2, hn]
          exact upd_same
      · obtain ⟨ps', a1, a2, a3⟩ := hT p hp
        refine ⟨ps', by rw [upd_ne (ne_of_none a1 nC), upd_ne hb]; exact a1, a2, fun p' cv hcv => ?_⟩
        obtain ⟨c0, e1, e2⟩ := a3 p' cv hcv
        exact ⟨c0, e1, hE _ _ e2 codeO_ne⟩
    have nF := I1.hok.fresh (Nat.le_refl _)
    have I2 := inv_lam (M := ⟨X.env.qual ++ "<lambda>", params, body, scope, cloFrom X.env.cells scope.names [], c'⟩) (t' := tk) (pm := (X.mg "__name__").getD .none) (ctv := ctv) I1 rfl
    refine h h'.objs.size c' _ _ I2 (fun b o e n => ?_) (fun b e => upd_none (upd_none (upd_none e))) (T1.ext fun b o e => ?_) (I.hok.fresh (Nat.le_trans hge (Nat.le_of_lt hlt))) upd_same ?_
    · have e1 := hE b o e n
      exact (upd_ne (ne_of_none e1 nF)).trans e1
    · exact (upd_ne (ne_of_none e nF)).trans e
    · exact (upd_ne (Nat.ne_of_lt hlt)).trans upd_same
  | some cv =>
    obtain ⟨c', e, hco⟩ := ha pos cv hc
    subst e
    rw [hn] at hco
    refine PySem.W.kla_makeFunctionHit (mg := X.mg) (c := c) (P := P) (ps := ps) (closure_ok hfree) I.ok.glob (I.mod.glob.keeps I.bk) hcode (TB.code.keeps I.bk) hP' ht hc bP fun ctv h' tk hx hsz => ?_
    have I1 : Inv X pins σ H { s with heap := h', toks := tk } := I.kept hx
    have nF : H h'.objs.size = none := I1.hok.fresh (Nat.le_refl _)
    have I2 := inv_lam (M := ⟨X.env.qual ++ "<lambda>", params, body, scope, cloFrom X.env.cells scope.names [], c'⟩) (t' := tk) (pm := (X.mg "__name__").getD .none) (ctv := ctv) I1 rfl
    refine h h'.objs.size c' _ _ I2 (fun b o e n => ?_) (fun b e => upd_none e) (hT.ext fun b o e => ?_) nF upd_same ?_
    · exact (upd_ne (ne_of_none e nF)).trans e
    · exact (upd_ne (ne_of_none e nF)).trans e
    · exact (upd_ne (ne_of_none hco nF)).trans hco
end
/-- the reading of a lambda -/
def tLam (T : List NTab) (mk : Addr → LM) : TE := fun σ H Q => TabsN T H ∧ ∀ (f c' : Addr) (H1 : Hp), ExtN H H1 → (∀ b, H1 b = Option.none → H b = Option.none) → TabsN T H1 → H f = none → H1 f = some (LamO f (mk c')) → H1 c' = some (CodeO c' (mk c').qual) → Q (.ref f) H1
theorem pe_lam {X : Cx} {T : List NTab} {nm : Nat → Nat → Str} {c P : Addr} {params : Arguments} {body : Expr} {scope : Scope} {pos : Pos} (TB : TabB X.base X.mg c P) (hcode : X.env.code = .ref c) (hm : (P, nm) ∈ T) (hn : nm pos.line pos.col = X.env.qual ++ "<lambda>") (hu : ∀ p ∈ T, p.1 = P → p.2 = nm)
    (hfree : ∀ y ∈ scope.names, y.2 = .free → X.env.scope.names.lookup y.1 = some .cell ∨ X.env.scope.names.lookup y.1 = some .free) (hdef : defaultsOf params X.env = ([], [])) :
    PE X (.Lambda params body scope pos) (tLam T fun c' => ⟨X.env.qual ++ "<lambda>", params, body, scope, cloFrom X.env.cells scope.names [], c'⟩) := by
  refine ⟨fun pins s σ H Q I h => ?_⟩
  obtain ⟨hT, h⟩ := h
  refine PySem.W.kla_eval hdef ?_
  have hfr : ∀ y ∈ scope.names, y.2 = .free → ∃ c, X.env.cells.lookup y.1 = some c := fun y hy e => (hfree y hy e).elim (fun z => I.ok.has _ (.inl z)) fun z => I.ok.has _ (.inr z)
  exact lam_made I TB hcode hm hn hu hT hfr fun f c' H1 s' I1 eN nn T1 f0 f1 c1 => ⟨.ref f, H1, I1, rfl, h f c' H1 eN nn T1 f0 f1 c1⟩
theorem PSnox {X : Cx} {st : Stmt} {t : TS} (h : PS X.nox st t) : PS X st t := ⟨fun pins s σ H D I hw =>
  wpAny_mono (h.run pins s σ H D (I.wish _) hw) (fun _ _ q => q.unwish) fun _ _ z => False.elim z⟩
/-- a def of three statements whose last returns: the cell of x outlives it -/
theorem fn_ofL {CX : CXT} {P : Program} {w : World} {K : PySem.W.Frag} {mg : Str → Option Value} {base : Heap} {k : Nat} {f : Addr} {name qual : Str} {params : Arguments} {body : List Stmt} {scope : Scope} {dV kV doc pm cdv ct oc : Value} {an od : Option Addr}
    {osl : Array (Option Value)} {N ps : List Str} {sp : Sp} (lk : K.lookup f = some ⟨oc, od, .func (PySem.W.fnOf name qual params body scope dV kV doc pm an cdv ct), osl⟩) (hcd : PySem.W.codeIn K cdv qual = true) (S : FnScope N ps scope)
    (len : ∀ vs H Q E, sp vs H Q E → vs.length = ps.length) {st1 st2 : Stmt} {e : Expr} {pos : Pos} (hb3 : body = [st1, st2, .Return (some e) pos]) {x : Str} {i : Nat} (hNi : N[i]? = some x) (hx : scope.names.lookup x = some .cell)
    (hbody : ∀ (A : Around) (outer : List Env) (s : Shared) (H : Hp) (vs : List V) (Q : VK) (E : XK), Room k (A.deeper (envOfC qual scope s.heap.objs.size f cdv)) → sp vs H Q E →
      ∃ t1 t2 te, PS (cxOf CX P w K mg base N qual scope f cdv A outer s H E).nox st1 t1 ∧ PS (cxOf CX P w K mg base N qual scope f cdv A outer s H E).nox st2 t2 ∧ PE (cxOf CX P w K mg base N qual scope f cdv A outer s H E).nox e te ∧
        t1 { nx := fun σ1 H1 => t2 { nx := fun σ2 H2 => ∃ v, σ2[i]? = some (some v) ∧ te σ2 H2 fun r H3 => ∀ c, (cellsFrom (s.heap.objs.size + 1) scope.names []).lookup x = some c → H3 c = none → Q r (upd H3 c (CellO c v)), rt := fun _ _ => False } σ1 H1, rt := fun _ _ => False } (start N vs) H) :
    FnOk P w K mg base CX (k + 1) f (PySem.W.fnOf name qual params body scope dV kV doc pm an cdv ct) ps sp := by
  subst hb3
  refine ⟨len, fun A outer s H args us vs Q E hr e0 hb r hsp => ?_⟩
  have hl := len _ _ _ _ hsp
  have KX : K.In s.heap := e0.mod.kin.keeps fun b o e => (e0.bs b o e).1
  have lim : s.heap.NoLimit := e0.mod.nolimit.keeps fun b o e => (e0.bs b o e).1
  have hkind : ∀ y ∈ ps.zip us, scope.names.lookup y.1 = some .local ∨ (scope.names.lookup y.1 = some .cell ∧ ((cellsFrom (s.heap.objs.size + 1) scope.names []).lookup y.1).isSome = true) := fun ⟨n, v⟩ hy => by
    rcases S.par n (List.of_mem_zip hy).1 with q | q
    · exact .inl q
    · exact .inr ⟨q, PySem.W.cellsFrom_some _ _ _ (.inl q)⟩
  refine codeAny_call_function hr.depth (KX _ _ lk) rfl S.co S.gen rfl (PySem.W.codeRec_of KX hcd) (hb _ _ _ _ ?_)
  refine wpAny_newFunctionEnv_cells S.kind hkind fun env he s1 y => ?_
  subst he
  refine ⟨lim.keeps y.toInCall.keep, codeAny_func ?_⟩
  obtain ⟨t1, t2, te, ht1, ht2, hte, hq⟩ := hbody A outer s H vs Q E (hr.deeper _) hsp
  have I : Inv (cxOf CX P w K mg base N qual scope f cdv A outer s H E) [] (start N vs) H s1 := inv_start S hr.hd e0 hl r y
  have fin : ∀ {σ' : L2.St} {H' : Hp} {v : V} {u : Value} {s' : Shared}, Inv (cxOf CX P w K mg base N qual scope f cdv A outer s H E) [] σ' H' s' → RelV v u → (∃ v0, σ'[i]? = some (some v0) ∧ ∀ c, (cellsFrom (s.heap.objs.size + 1) scope.names []).lookup x = some c → H' c = none → Q v (upd H' c (CellO c v0))) → CE outer P w H s Q u s' := by
    intro σ' H' v u s' J rv ⟨v0, hσ, q⟩
    obtain ⟨m, hn, hlk⟩ := J.loc
    obtain ⟨u0, ru, l⟩ := hlk i x v0 hNi hσ (.inr (.inl hx))
    rcases l with ⟨z, _⟩ | ⟨_, c, hc, hcell⟩
    · have z' : scope.names.lookup x = some .local := z
      rw [hx] at z'
      cases z'
    · have hnc : H' c = none := J.freeC x c hc
      have hge : s.heap.objs.size ≤ c := J.ok.cab x c rfl hc
      have ne : ∀ b o, s.heap.get? b = some o → b ≠ c := fun b o e z => by
        rw [z] at e
        exact absurd (Nat.lt_of_lt_of_le (Heap.lt_size e) hge) (Nat.lt_irrefl _)
      refine ⟨v, upd H' c (CellO c v0), J.os, J.bare, ⟨J.base.keep, J.base.slot, fun b o e n hx' => ?_, J.base.there, fun b xs e => ?_, fun b o w' e => ?_, fun b qs e => ?_⟩, fun b o e => ?_, rv, q c hc hnc⟩
      · rw [upd_ne (ne b o e)]
        exact J.base.free b o e n hx'
      · have e2 := J.base.tups b xs e
        rw [upd_ne (ne_of_none e2 hnc)]
        exact e2
      · have e2 := J.base.frzs b o w' e
        rw [upd_ne (ne_of_none e2 hnc)]
        exact e2
      · obtain ⟨more, e2⟩ := J.base.tbls b qs e
        refine ⟨more, ?_⟩
        rw [upd_ne (ne_of_none e2 hnc)]
        exact e2
      · by_cases hbc : b = c
        · subst hbc
          rw [upd_same] at e
          cases e
          obtain ⟨ob, ho, hd⟩ := hcell
          exact ⟨⟨u0, ru, ob, ho, hd⟩, ⟨ob, ho⟩, fun h1 h2 ⟨u', r', o', ho', hd'⟩ st => ⟨u', r', o', st _ ho', hd'⟩⟩
        · rw [upd_ne hbc] at e
          refine (J.hok b o e).stay (fun b u _ q => q) (fun d q => ?_) (fun d xs q => ?_)
          · rw [upd_ne (ne_of_none q hnc)]
            exact q
          · rw [upd_ne (ne_of_none q hnc)]
            exact q
  refine wpAny_execs_cons (wpAny_mono ((PSnox ht1).run [] s1 (start N vs) H _ I hq) (fun fl s' hs => ?_) fun e s' hs => hs)
  cases fl with
  | ret u => obtain ⟨_, _, _, _, _, q⟩ := hs; exact q.elim
  | brk => obtain ⟨_, _, _, q⟩ := hs; exact q.elim
  | cont => obtain ⟨_, _, _, q⟩ := hs; exact q.elim
  | next =>
    obtain ⟨σ1, H1, I1, q1⟩ := hs
    refine wpAny_execs_cons (wpAny_mono ((PSnox ht2).run [] s' σ1 H1 _ I1 q1) (fun fl s' hs => ?_) fun e s' hs => hs)
    cases fl with
    | ret u => obtain ⟨_, _, _, _, _, q⟩ := hs; exact q.elim
    | brk => obtain ⟨_, _, _, q⟩ := hs; exact q.elim
    | cont => obtain ⟨_, _, _, q⟩ := hs; exact q.elim
    | next =>
      obtain ⟨σ2, H2, I2, v0, hσ, q2⟩ := hs
      refine wpAny_execs_cons (wpAny_Return_some (wpAny_mono (hte.nox.run [] _ σ2 H2 _ I2 q2) (fun u s3 ⟨v, H3, I3, rv, q3⟩ => ?_) fun e s' hs => hs))
      exact fin I3 rv ⟨v0, hσ, q3⟩
end Kl
end
section
/-! such a lambda called. -/
namespace Kl
open PySem PySem.Spec PyProof.Rows L2 LamX NdefX
/-- f is the lambda M whose one captured name x holds v -/
structure LamAt (H : Hp) (f : Addr) (M : LM) (x : Str) (v : V) : Prop where
  fn : H f = some (LamO f M)
  cd : H M.c = some (CodeO M.c M.qual)
  cl : ∃ c, M.cl = [(x, c)] ∧ H c = some (CellO c v)
theorem LamAt.ext {H H' : Hp} {f : Addr} {M : LM} {x : Str} {v : V} (h : LamAt H f M x v) (s : ∀ b φ, H b = some (.ext φ) → H' b = some (.ext φ)) : LamAt H' f M x v := by
  obtain ⟨a, b, c, e, d⟩ := h
  exact ⟨s _ _ a, s _ _ b, c, e, s _ _ d⟩
def dropH (H : Hp) (c : Addr) : Hp := fun b => if b = c then none else H b
theorem drop_same {H : Hp} {c : Addr} : dropH H c c = none := by unfold dropH; rw [if_pos rfl]
theorem drop_ne {H : Hp} {b c : Addr} (h : b ≠ c) : dropH H c b = H b := by unfold dropH; rw [if_neg h]
theorem drop_none {H : Hp} {b c : Addr} (h : H b = none) : dropH H c b = none := by
  unfold dropH
  split
  · rfl
  · exact h
theorem look1 {x y : Str} {c a : Addr} (e : ([(x, c)] : List (Str × Addr)).lookup y = some a) : y = x ∧ a = c := by
  rw [List.lookup_cons] at e
  cases q : (y == x) with
  | true =>
    rw [q] at e
    exact ⟨beq_iff_eq.mp q, (Option.some.inj e).symm⟩
  | false =>
    rw [q] at e
    cases e
/-- the words of the lambda, for the context of its body -/
abbrev LM.nf (M : LM) : NF := ⟨"<lambda>", M.qual, M.params, [], M.scope, M.cl, M.c⟩
section
variable {P : Program} {w : World} {K : PySem.W.Frag} {mg : Str → Option Value} {base : Heap} {N ps : List Str} {M : LM} {f : Addr} {A : Around} {outer : List Env} {s : Shared} {H : Hp} {E : XK} {us : List Value} {vs : List V} {x : Str} {v : V} {k : Nat} {Q : VK} {te : TE}
theorem run_lam (S : NScope N ps [x] M.scope) (hbind : ∀ (pm ctv : Value) (us : List Value), us.length = ps.length → bindArgs (M.fd pm ctv) ⟨us, []⟩ = pure (ps.zip us)) (hr : Room (k + 1) A) (e0 : Env0 P w K mg base A outer s H) (La : LamAt H f M x v) (r : Vals vs us) (hl : vs.length = ps.length)
    (hbody : ∀ (A : Around) (outer : List Env) (s : Shared) (H : Hp), Room k (A.deeper (envF M.nf f s.heap.objs.size)) → PE (ncx C8.CX0 P w K mg base N M.nf f A outer s H E).nox M.body te)
    (hq : ∀ c, M.cl = [(x, c)] → te (startF N vs [some v]) (dropH H c) fun u H' => H' c = none → Q u (upd H' c (CellO c v))) :
    codeAny (model P w) A (.call (.ref f) ⟨us, []⟩) (CR C8.CX0 outer P w H s Q E) s := by
  obtain ⟨hf, hcd, c, hcl, hc⟩ := La
  have lim : s.heap.NoLimit := e0.mod.nolimit.keeps fun b o e => (e0.bs b o e).1
  obtain ⟨⟨od, sl, pm, ctv, ho⟩, _, _⟩ := e0.hok f _ hf
  obtain ⟨⟨u0, ru, hcell⟩, ⟨oc, hoc⟩, _⟩ := e0.hok c _ hc
  have hnc : ∀ b xs, H b = some (.tup xs) → b ≠ c := fun b xs e z => by
    rw [z, hc] at e
    cases e
  have hno : ∀ b a, H b = some (.own a) → b ≠ c := fun b a e z => by
    rw [z, hc] at e
    cases e
  have hd : HOk P w (dropH H c) s.heap := fun b o e => by
    by_cases hbc : b = c
    · rw [hbc, drop_same] at e
      cases e
    · rw [drop_ne hbc] at e
      exact (e0.hok b o e).stay (fun _ _ _ q => q) (fun d q => (drop_ne (hno d b q)).trans q) fun d xs q => (drop_ne (hnc d xs q)).trans q
  have e1 : Env0 P w K mg base A outer s (dropH H c) := ⟨e0.frames, e0.mod, fun b o e => ⟨(e0.bs b o e).1, drop_none (e0.bs b o e).2⟩, e0.bsz, e0.funs, fun b hb => drop_none (e0.frf b hb), hd, e0.bare⟩
  have C : CellsAt M.nf.cl [x] [some v] s.heap (dropH H c) := by
    show CellsAt M.cl [x] [some v] s.heap (dropH H c)
    rw [hcl]
    refine ⟨rfl, fun y a e => ?_, fun y z a e1 e2 => ?_, fun i y e => ?_⟩
    · obtain ⟨_, rfl⟩ := look1 e
      exact ⟨drop_same, _, hcell⟩
    · rw [(look1 e1).1, (look1 e2).1]
    · match i, e with
      | 0, e =>
        cases e
        exact ⟨c, by simp, fun v' e => by cases e; exact ⟨u0, ru, hcell⟩⟩
  refine PySem.W.kla_callFunE hr.depth ho rfl S.co S.gen rfl (codeO_at e0.hok hcd) ?_
  rw [hbind pm ctv us (by rw [← r.length]; exact hl)]
  refine wpAny_pure (wpAny_newFunctionEnv S.nocell (fun ⟨n, _⟩ hy => S.par n (List.of_mem_zip hy).1) (fun h₁ hns hsb => ⟨lim.fresh _ hsb, ?_⟩) S.kind)
  show codeAny _ _ (.expr M.body (envF M.nf f s.heap.objs.size)) _ _
  have kp : ∀ b o, s.heap.get? b = some o → h₁.get? b = some o := fun b o e => hsb.extBut b o (Nat.ne_of_lt (Heap.lt_size e)) (Heap.get?_push_of_some _ e)
  have I : Inv (ncx C8.CX0 P w K mg base N M.nf f A outer s (dropH H c) E) [] (startF N vs [some v]) (dropH H c) { s with heap := h₁, toks := s.toks + (ps.zip us).length } := inv_startN S hr.hd e1 hl r C hns kp
  refine PySem.W.kla_codeExpr (wpAny_mono ((hbody _ _ s (dropH H c) (hr.deeper _)).nox.run [] _ _ _ _ I (hq c hcl)) (fun u s' hu => ?_) fun e s' hu => hu)
  obtain ⟨w', H', J, rv, q⟩ := hu
  have un : Un (frs outer) [] (dropH H c) H' s.heap s'.heap := J.base
  have n' : H' c = none := un.free c oc hoc drop_same (by simp)
  obtain ⟨sl', hoc'⟩ := un.any hoc drop_same (by simp)
  refine ⟨w', upd H' c (CellO c v), J.os, J.bare, ⟨fun b o e n hb hx => un.keep b o e (drop_none n) hb hx, fun b o e n hb hx => un.slot b o e (drop_none n) hb hx, fun b o e n hx => ?_, un.there, fun b xs e => ?_, fun b o w2 e => ?_, fun b qs e => ?_⟩, fun b o e => ?_, rv, q n'⟩
  · rw [upd_ne (fun z => by rw [z, hc] at n; cases n)]
    exact un.free b o e (drop_none n) hx
  · have hb := hnc b xs e
    rw [upd_ne hb]
    exact un.tups b xs ((drop_ne hb).trans e)
  · have hb : b ≠ c := fun z => by
      rw [z, hc] at e
      cases e
    rw [upd_ne hb]
    exact un.frzs b o w2 ((drop_ne hb).trans e)
  · have hb : b ≠ c := fun z => by
      rw [z, hc] at e
      cases e
    obtain ⟨more, e2⟩ := un.tbls b qs ((drop_ne hb).trans e)
    exact ⟨more, by rw [upd_ne hb]; exact e2⟩
  · by_cases hbc : b = c
    · subst hbc
      rw [upd_same] at e
      cases e
      obtain ⟨ob, hob, hdb⟩ := hcell
      rw [hoc] at hob
      cases hob
      exact ⟨⟨u0, ru, _, hoc', hdb⟩, ⟨_, hoc'⟩, fun h1 h2 ⟨u', r', o', ho', hd'⟩ st => ⟨u', r', o', st _ ho', hd'⟩⟩
    · rw [upd_ne hbc] at e
      refine (J.hok b o e).stay (fun b u _ q => q) (fun d q => ?_) (fun d xs q => ?_)
      · rw [upd_ne (ne_of_none q n')]
        exact q
      · rw [upd_ne (ne_of_none q n')]
        exact q
end
/-- what a lambda that was made at a place promises: sp v, v what its captured name holds -/
structure LOk (P : Program) (w : World) (K : PySem.W.Frag) (mg : Str → Option Value) (base : Heap) (k : Nat) (L : Hp → Addr → Prop) (sp : Addr → Sp) : Prop where
  run : ∀ (A : Around) (outer : List Env) (s : Shared) (H : Hp) (f : Addr) (us : List Value) (vs : List V) (Q : VK), Room k A → Env0 P w K mg base A outer s H → L H f → Vals vs us → sp f vs H Q C8.E0 →
    codeAny (model P w) A (.call (.ref f) ⟨us, []⟩) (CR C8.CX0 outer P w H s Q C8.E0) s
/-- e(..), e a lambda -/
def tCallM (L : Hp → Addr → Prop) (sp : Addr → Sp) (tf : TE) (t : TA) : TE := fun σ H Q => tf σ H fun y H1 => ∃ f, y = .ref f ∧ L H1 f ∧ t σ H1 fun vs H2 => L H2 f ∧ sp f vs H2 Q C8.E0
section
variable {X : Cx} {L : Hp → Addr → Prop} {sp : Addr → Sp} {k j : Nat} {t : TA} {e : Expr} {es : List Expr} {p pos : Pos}
theorem run_m {pins : List (Addr × Obj)} {σ : L2.St} {H : Hp} {s : Shared} {Q : VK} {f : Addr} {us : List Value} {vs : List V} (F : LOk X.prog X.w X.K X.mg X.base k L sp) (hr : Room j X.A) (hk : k ≤ j) (I : Inv X pins σ H s)
    (hf : L H f) (r : Vals vs us) (q : sp f vs H Q C8.E0) : wpAny (model X.prog X.w) X.A (call (.ref f) us) (EP X pins σ Q) X.xe s := by
  refine wpAny_call (codeAny_mono (F.run X.A X.stack s H f us vs Q (hr.mono hk) I.env0 hf r q) fun r s' hq => ?_)
  cases r with
  | error e => exact False.elim hq
  | ok fl =>
    cases fl with
    | ret u => exact I.after hq
    | next => exact False.elim hq
    | brk => exact False.elim hq
    | cont => exact False.elim hq
theorem lam_fnAt {pins : List (Addr × Obj)} {σ : L2.St} {H : Hp} {s : Shared} {f : Addr} {M : LM} (I : Inv X pins σ H s) (e : H f = some (LamO f M)) : PySem.W.FnAt f s.heap := by
  obtain ⟨⟨od, sl, pm, ctv, ho⟩, _, _⟩ := I.hok f _ e
  exact ⟨_, od, _, sl, ho⟩
/-- x(..), x a name that holds one -/
theorem pe_callM (F : LOk X.prog X.w X.K X.mg X.base k L sp) (hL : ∀ H f, L H f → ∃ M, H f = some (LamO f M)) (hr : Room j X.A) (hk : k ≤ j) {i : Nat} {x : Str} (hN : X.N[i]? = some x) (hv : Vis X.env.scope x) (ha : PA X (e :: es) t)
    (hd : (x == ("__debug__" : Str)) = false := by decide) (hcd : (x == ("__classdict__" : Str)) = false := by decide)
    (he : starEach (e :: es) X.env = (false, eval e X.env) :: starEach es X.env := by rfl) (hpl : (backTo pos (starEach es X.env)).any (·.1) = false := by rfl) :
    PE X (.Call (.Name x p) (e :: es) [] pos) (tCallM L sp (tVar i) t) := by
  refine ⟨fun pins s σ H Q I h => ?_⟩
  refine wpAny_Call_Name_kw (thn ((pe_var (pos := p) hN hv hd hcd).run pins s σ H _ I h) fun u s1 ⟨v, H1, I1, r1, q1⟩ => ?_)
  obtain ⟨f, ev, hf, ht⟩ := q1
  subst ev
  obtain rfl : u = Value.ref f := r1
  obtain ⟨M, hM⟩ := hL _ _ hf
  refine PySem.W.callWith_F (first := []) (lam_fnAt I1 hM) (thn (ha.run pos pins s1 σ H1 _ I1 ht) fun us s2 ⟨vs, H2, I2, r, h1, q⟩ => ⟨let ⟨_, z⟩ := hL _ _ h1; lam_fnAt I2 z, ?_⟩) he hpl
  show wpAny _ _ (call (.ref f) us) _ _ _
  exact run_m F hr hk I2 h1 r q
end
end Kl
end
section
/-! dict(zip(xs, ys)) of two lists, d.update(d2) -/
namespace Kz
open PySem PySem.Spec PyProof.Rows L2
theorem kv_zip : ∀ {ks : List Key} {ys : List V} {us ws : List Value}, Vals (ks.map kV) us → Vals ys ws → KV (ks.zip ys) (ks.zip ws)
  | [], _, _, _, _, _ => .nil
  | k :: ks, ys, us, ws, r, r2 => by
    cases r2 with
    | nil => exact .nil
    | cons h t =>
      rw [List.map_cons] at r
      cases r with
      | cons h1 t1 => exact .cons ⟨rfl, h⟩ (kv_zip t1 t)
theorem key_at {X : Cx} : ∀ {ks : List Key} {us : List Value} {i : Nat} {u : Value}, Vals (ks.map kV) us → us[i]? = some u → ∃ k, ks[i]? = some k ∧ keyIs k u = true
  | [], us, i, u, r, e => by
    rw [List.map_nil] at r
    cases r
    simp at e
  | k :: ks, us, i, u, r, e => by
    rw [List.map_cons] at r
    cases r with
    | cons h t =>
      cases i with
      | zero =>
        simp at e
        subst e
        exact ⟨k, rfl, kV_is (P := X.prog) (w := X.w) h⟩
      | succ i =>
        obtain ⟨k', e1, e2⟩ := key_at (X := X) t (show _ = _ by simpa using e)
        exact ⟨k', by simpa using e1, e2⟩
def tDictZip (K : PySem.W.Frag) (ta : TA) : TE := fun σ H Q => ta σ H fun vs H1 => ∃ a b, ∃ (ks : List Key) (ys : List V), vs = [.ref a, .ref b] ∧ SqL K H1 a (ks.map kV) ∧ SqL K H1 b ys ∧ ks.length = ys.length ∧
  ∀ p, H1 p = none → Q (.ref p) (upd H1 p (.dK (mergeK [] (ks.zip ys))))
theorem pe_dictZip {X : Cx} {e e2 : Expr} {ta : TA} {p p2 q pos : Pos} (hc : X.calm = true) (hg : Gl X "dict") (hm : X.mg "dict" = none) (hg2 : Gl X "zip") (hm2 : X.mg "zip" = none) (ha : PA X [e, e2] ta)
    (hs : starEach [e, e2] X.env = (false, eval e X.env) :: starEach [e2] X.env := by rfl) (hpl : (backTo q (starEach [e2] X.env)).any (·.1) = false := by rfl) :
    PE X (.Call (.Name "dict" p) [.Call (.Name "zip" p2) [e, e2] [] q] [] pos) (tDictZip X.K ta) := by
  refine ⟨fun pins s σ H Q I h => ?_⟩
  refine Call_ (ld_blt I hg hm (by decide +kernel : bootBuiltins "dict" = some (.type "dict")) ?_)
  refine PyProof.Rows.callWith_type1 (PyProof.Rows.args_cons ?_ rfl) rfl rfl
  refine Call_ (ld_blt I hg2 hm2 PyProof.Rows.boot_zip (PyProof.Rows.callWith_type1 (thn (ha.run q pins s σ H _ I h) fun us s1 ⟨vs, H1, I1, r1, q1⟩ => ?_) hs hpl))
  obtain ⟨a, b, ks, ys, ex, hqx, hqy, hlen, q⟩ := q1
  subst ex
  cases r1 with
  | cons r rr =>
    cases rr with
    | cons r' rr =>
      cases rr
      cases r
      cases r'
      obtain ⟨its, rv, p1, z1⟩ := I1.list hqx
      obtain ⟨its2, rv2, p2, z2⟩ := I1.list hqy
      have la : a < s1.heap.objs.size := p1.lt
      have lb : b < s1.heap.objs.size := p2.lt
      have l1 : its.length = ks.length := by rw [← rv.length, List.length_map]
      have l2 : its2.length = ks.length := by rw [← rv2.length, hlen]
      refine call_zip_2 p1.isList p2.isList fun h' hz hTI hTO h1 h2 hsz hk => PyProof.Rows.args_nil ?_
      have I2 : Inv X pins σ H1 { s1 with heap := h' } := I1.kept (t' := s1.toks) hk
      have hmin : min its.toArray.size its2.toArray.size = (ks.zip its2).length := by
        rw [List.size_toArray, List.size_toArray, List.length_zip, l1, l2]
      have rel := kv_zip rv rv2
      have hz0 : (mergeK [] (ks.zip ys)).length ≤ sizeLine := by
        refine Nat.le_trans (length_mergeK (ks.zip ys) []) ?_
        rw [List.length_nil, Nat.zero_add, List.length_zip, ← hlen, Nat.min_self]
        rw [List.length_map] at z1
        exact z1
      refine PySem.call_dict_pairs (knd := mixKind X.prog X.w) (kvs := ks.zip its2) (PairArg.zip (s1.heap.objs.size + 4) (s1.heap.objs.size + 2) (s1.heap.objs.size + 3) s1.heap.objs.size (s1.heap.objs.size + 1) a b (PySem.W.ktu_apart s1.heap.objs.size a b la lb) its.toArray its2.toArray) (I2.ok.hd hc)
        ⟨hz, hTI, ⟨_, _, hTO⟩, h1, h2, (p1.isList.at fun o e => hk _ o e), (p2.isList.at fun o e => hk _ o e)⟩ ⟨hmin.symm, fun i key v hrel => ?_⟩ (by
          rw [hmin, List.length_zip, l2, Nat.min_self]
          rw [List.length_map] at z1
          exact z1) fun h2 tk hd hk2 => ?_
      · obtain ⟨e1, e2⟩ := hrel
        rw [List.getElem?_toArray] at e1 e2
        obtain ⟨k, ek, hk'⟩ := key_at (X := X) rv e1
        exact ⟨k, by rw [List.getElem?_zip_eq_some]; exact ⟨ek, e2⟩, hk'⟩
      · have hsz2 : s1.heap.objs.size ≤ h'.objs.size := by rw [hsz]; exact Nat.le_add_right _ _
        have kk : ∀ b u, s1.heap.get? b = some u → h2.get? b = some u := fun c u e => hk2 c u (fun hm => by
          have hlt : c < s1.heap.objs.size := Heap.lt_size e
          simp only [List.mem_cons, List.not_mem_nil, or_false] at hm
          rcases hm with z | z | z | z
          · rw [z] at hlt; exact absurd hlt (Nat.not_lt.mpr (Nat.le_add_right _ _))
          · rw [z] at hlt; exact absurd hlt (Nat.not_lt.mpr (Nat.le_add_right _ _))
          · rw [z] at hlt; exact absurd hlt (Nat.lt_irrefl _)
          · rw [z] at hlt; exact absurd hlt (Nat.not_lt.mpr (Nat.le_add_right _ _))) (hk c u e)
        have hm : (h'.objs.size == sysModules) = false := beq_eq_false_iff_ne.mpr (Nat.ne_of_gt (Nat.lt_of_lt_of_le I1.big hsz2))
        exact ⟨.ref h'.objs.size, upd H1 h'.objs.size (.dK (mergeK [] (ks.zip ys))), I1.laid (t' := tk) kk hsz2 (show ObjOk X.prog X.w _ _ _ (.dK (mergeK [] (ks.zip ys))) from ⟨hz0, hm, merged [] (ks.zip its2), KV.merge rel .nil, hd⟩), rfl,
          q _ (I1.hok.fresh hsz2)⟩
/-- d.update(d2), d2 another dict -/
def rDUpd : V → List V → Hp → VK → Prop := fun x vs H Q => ∃ (a b : Addr) (kvs more : List (Key × V)), x = .ref a ∧ vs = [.ref b] ∧ a ≠ b ∧ H a = some (.dK kvs) ∧ H b = some (.dK more) ∧ kvs.length + more.length ≤ 1000 ∧ Q .non (upd H a (.dK (mergeK kvs more)))
theorem mtd_update {X : Cx} : MtR X "dict.update" rDUpd := by
  intro pins s σ H x vs v us Q I rx rv h
  obtain ⟨a, b, kvs, more, ex, ev, hab, ea, eb, hl, q⟩ := h
  subst ex
  subst ev
  obtain rfl : v = Value.ref a := rx
  obtain ⟨u, rfl, ru⟩ := rv.one
  cases ru
  obtain ⟨z, hd, vs1, rel, dd⟩ := dk_of I.hok ea
  obtain ⟨z2, hd2, vs2, rel2, dd2⟩ := dk_of I.hok eb
  have hsl : kvs.length + more.length ≤ sizeLine := Nat.le_of_lt (small1000 hl)
  refine call_meetsIn PySem.F.slot_dict_update dd.typeIs PySem.F.entry_dict_update (PySem.F.args_dict_update_2 _ _) (meets_dict_update (mixKind X.prog X.w) a b hab hd2)
    ⟨vs1, vs2, dd, dd2, by rw [← rel.length, ← rel2.length]; exact hsl, fun h' dd' _ hs => ⟨.non, _, ?_, rfl, q⟩⟩
  have he : ∃ q, h'.get? a = some q := let ⟨q, _, _, hq, _⟩ := dd'; ⟨q, hq⟩
  exact d_write (t' := s.toks) I (by rw [ea]; exact True.intro) hs he (dk_new (Nat.le_trans (length_mergeK more kvs) hsl) hd (KV.merge rel2 rel) dd')
end Kz
end
section
/-! x != y by an own == (object.__ne__ asks it), len(x) by an own __len__ -/
namespace Kn
open PySem PySem.W PySem.Spec PyProof.Rows L2
section
variable {prog : Program} {w : World} {A : Around} {E : Value → Shared → Prop} {s : Shared} {K : Frag} {x C f : Addr} {ox : Obj} {od : Option Obj} {name : Str} {b : Value}
theorem ifBound_B {M : Model} {id : String} {args : List Value} {Q : Option Value → Shared → Prop} (X : K.In s.heap) (I : InstAt s.heap x ox C od) (hs : findIn K (.ref C) name = some (some (.builtin id)))
    (hb : ∀ self, bindSpecial (.builtin id) self = pure (.builtin id, [self])) (h : wpAny M A (call (.builtin id) (.ref x :: args)) (fun v => Q (some v)) E s) : wpAny M A (callSpecialIfBound? (.ref x) name args) Q E s := by
  simp only [callSpecialIfBound?, bindSpecialIfBound?]
  refine wpAny_holding (wpAny_bind (wpAny_bind (wpAny_bind (I.type.here ((looks_findIn X hs).here ?_)))))
  refine wpAny_bind (wpAny_askSetting (wpAny_ite ?_))
  have fin : wpAny M A (call (.builtin id) ([.ref x] ++ args) >>= fun v => pure (some v)) Q E s := wpAny_bind (wpAny_mono h (fun v s' h' => wpAny_pure h') fun _ _ h' => h')
  simp only [hb]
  split
  · exact wpAny_bind (wpAny_pure (wpAny_pure (by exact fin)))
  · exact wpAny_tryCatch (wpAny_bind (wpAny_pure (wpAny_pure (by exact fin))))
theorem objNe_K {Q : Fin → Shared → Prop} (X : K.In s.heap) (I : InstAt s.heap x ox C od) (hs : findIn K (.ref C) "__eq__" = some (some (.ref f))) (hf : isFn K (.ref f) = true) (hu : A.units < cLine)
    (hcall : wpAny (model prog w) A (call (.ref f) [.ref x, b]) (fun v s' => ∃ k, v = .bool k ∧ Q (.done (.ret (.bool (!k)))) s') E s) :
    wpAny (model prog w) A (Builtin.«object.__ne__» ⟨[.ref x, b], []⟩) Q E s := by
  unfold Builtin.«object.__ne__»
  repeat (first
    | with_reducible refine wpAny_cRoomFor hu ?_
    | (refine wpAny_bind (m := callSpecialIfBound? (.ref x) (Str.ofString "__eq__") [b])
        (ifBound_K X I hs hf (wpAny_mono hcall (fun r s' hr => by
          obtain ⟨k, rfl, hq⟩ := hr
          repeat (first | exact hq | exact wpAny_pure hq | exact wpAny_truthy_bool hq | (refine wpAny_bind (m := truthy (.bool _)) (wpAny_truthy_bool ?_)) | wp_step)) fun _ _ e => e)))
    | wp_step)
theorem ne_K {y : Addr} {oy : Obj} {od' : Option Obj} {Q : Value → Shared → Prop} (X : K.In s.heap) (I : InstAt s.heap x ox C od) (J : InstAt s.heap y oy C od') (hs : findIn K (.ref C) "__eq__" = some (some (.ref f))) (hf : isFn K (.ref f) = true)
    (hn : findIn K (.ref C) "__ne__" = some (some (.builtin "object.__ne__"))) (hm : mroIn K C (.type "object") = some true) (hu : A.units + 1 < cLine)
    (hcall : wpAny (model prog w) A.in1 (call (.ref f) [.ref x, .ref y]) (fun v s' => ∃ k, v = .bool k ∧ Q (.bool (!k)) s') E s) : wpAny (model prog w) A (richCompare .NotEq (.ref x) (.ref y)) Q E s := by
  have one : wpAny (model prog w) A (tryCompare (.ref x) "__ne__" (.ref y)) (fun r s' => ∃ v, r = some v ∧ Q v s') E s := by
    simp only [tryCompare]
    refine wpAny_bind (ifBound_B X I hn F.cmp_object.ne.bind (wpAny_call (codeAny_call_builtin F.cmp_object.ne.plain F.cmpEntry_ne
      (check_slot F.cmpKind_ne F.cmpSplit_ne (I.type.andThen (looks_mroIn X hm)) (F.cmpArgs_ne _ _) (objNe_K (A := A.in1) X I hs hf hu (wpAny_mono hcall (fun v s' hv => ?_) fun _ _ e => e))))))
    obtain ⟨k, rfl, hq⟩ := hv
    refine ⟨k, rfl, ?_⟩
    first | exact wpAny_pure ⟨_, rfl, hq⟩ | exact wpAny_pure (wpAny_pure ⟨_, rfl, hq⟩)
  unfold richCompare
  simp only [oneThing_ref]
  refine wpAny_holding (wpAny_bind (wpAny_cRoomFor (Nat.lt_of_succ_lt hu) ?_))
  refine wpAny_bind (I.type.here (wpAny_bind (J.type.here ?_)))
  rw [show (Value.ref C != Value.ref C) = false from by simp]
  simp only [Bool.false_eq_true, if_false]
  refine wpAny_bind (wpAny_pure ?_)
  simp only [Bool.false_eq_true, if_false]
  refine wpAny_bind (wpAny_mono one (fun r s' z => ?_) fun _ _ e => e)
  obtain ⟨v, rfl, hq⟩ := z
  exact wpAny_pure hq
theorem callSpecial_K {M : Model} {args : List Value} {Q : Option Value → Shared → Prop} (X : K.In s.heap) (I : InstAt s.heap x ox C od) (hs : findIn K (.ref C) name = some (some (.ref f))) (hf : isFn K (.ref f) = true)
    (h : wpAny M A (call (.ref f) (.ref x :: args)) (fun v => Q (some v)) E s) : wpAny M A (callSpecial? (.ref x) name args) Q E s := by
  unfold callSpecial?
  refine wpAny_bind (wpAny_bind (I.type.here ((looks_findIn X hs).here ?_)))
  refine wpAny_holding (wpAny_bind ((bind_fn X _ (beq_iff_eq.mp hf)).here ?_))
  exact wpAny_bind (wpAny_mono h (fun v s' h' => wpAny_pure h') fun _ _ h' => h')
theorem len_K {Q : Value → Shared → Prop} (X : K.In s.heap) (I : InstAt s.heap x ox C od) (hs : findIn K (.ref C) "__len__" = some (some (.ref f))) (hf : isFn K (.ref f) = true)
    (hcall : wpAny (model prog w) A.in1 (call (.ref f) [.ref x]) (fun r s' => ∃ n u, r = .int n u ∧ 0 ≤ n ∧ n < 2 ^ 63 ∧ Q (.int n s'.toks) { s' with toks := s'.toks + 1 }) E s) :
    wpAny (model prog w) A (call (.builtin "len") [.ref x]) Q E s := by
  refine Calls.call_function_entry kind_len plain_len entry_len (args_len1 _) ?_
  unfold Builtin.«len»
  refine wpAny_bind (m := oneArg "len" _) (wpAny_pure ?_)
  refine wpAny_bind (m := callSpecial? (.ref x) (Str.ofString "__len__")) (callSpecial_K X I hs hf (wpAny_mono hcall (fun r s' hr => ?_) fun _ _ y => y))
  obtain ⟨n, u, rfl, h0, h1, hq⟩ := hr
  refine wpAny_bind (wpAny_holding (wpAny_pure ?_))
  refine wpAny_bind (wpAny_letGo ?_)
  show wpAny _ _ (if n < 0 then _ else _) _ _ _
  rw [if_neg (by omega)]
  show wpAny _ _ (if n ≥ 2 ^ 63 then _ else _) _ _ _
  rw [if_neg (by omega)]
  exact wpAny_bind (wpAny_mkInt (wpAny_pure ⟨_, rfl, hq⟩))
end
/-- x != y: the own == is asked, and turned -/
def rNeO (C : Addr) (sp : Sp) (E : XK) : R2 := fun x y H Q => ∃ a b dx dy fs gs, x = .ref a ∧ y = .ref b ∧ H a = some (.ins C dx fs) ∧ H b = some (.ins C dy gs) ∧ sp [.ref a, .ref b] H (fun v H' => ∃ k, v = .bl k ∧ Q (.bl (!k)) H') E
def rLenO (C : Addr) (sp : Sp) (E : XK) : List V → Hp → VK → Prop := fun xs H Q => ∃ a dx fs, xs = [.ref a] ∧ H a = some (.ins C dx fs) ∧ sp [.ref a] H (fun v H' => ∃ n : Nat, v = .int n ∧ n < 2 ^ 63 ∧ Q (.int n) H') E
section
variable {X : Cx} {n : Nat} {CX : CXT} {C f : Addr} {fd : FuncData} {ps : List Str} {sp : Sp} {E : XK}
theorem op_neO (F : FnOk X.prog X.w X.K X.mg X.base CX n f fd ps sp) (hs : findIn X.K (.ref C) "__eq__" = some (some (.ref f))) (hf : isFn X.K (.ref f) = true) (hn : findIn X.K (.ref C) "__ne__" = some (some (.builtin "object.__ne__")))
    (hm : mroIn X.K C (.type "object") = some true) (hb : Binds X.K fd ps []) (hx : Passes CX X E) (hr : Room (n + 1) X.A) : OpR X (compareOp .NotEq) (rNeO C sp E) := by
  intro pins s σ H x y u v Q I rx ry hq
  obtain ⟨a, b, dx, dy, fs, gs, rfl, rfl, ha, hb', hsp⟩ := hq
  cases rx
  cases ry
  obtain ⟨mA, J, _⟩ := ins_get I.hok ha
  obtain ⟨mB, J', _⟩ := ins_get I.hok hb'
  obtain ⟨od, J, _⟩ := J.look
  obtain ⟨od', J', _⟩ := J'.look
  have sb : Sub X (n + 1) X.A := ⟨hr, rfl⟩
  show wpAny (model X.prog X.w) X.A (richCompare .NotEq (.ref a) (.ref b)) _ X.xe s
  refine ne_K I.kIn J J' hs hf hn hm (hu_of hr) ?_
  have e0 : Env0 X.prog X.w X.K X.mg X.base X.A.in1 X.stack s H := by
    have e := I.env0
    exact ⟨by rw [sb.in1.fr]; exact e.frames, e.mod, e.bs, e.bsz, e.funs, e.frf, e.hok, e.bare⟩
  have hl := F.len _ _ _ _ hsp
  have r2 : Vals [V.ref a, V.ref b] [Value.ref a, Value.ref b] := .cons rfl (.cons rfl .nil)
  refine wpAny_call (codeAny_mono (F.run X.A.in1 X.stack s H ⟨[.ref a, .ref b], []⟩ [.ref a, .ref b] [.ref a, .ref b] _ E sb.in1.room e0 (by
    have := hb s [.ref a, .ref b] I.kIn (by simpa using hl)
    simpa using this) r2 hsp) fun r s' hq => ?_)
  cases r with
  | error e => exact hx pins σ H s e s' I hq
  | ok fl =>
    cases fl with
    | ret w =>
      obtain ⟨z, H', I', rz, k, ez, q⟩ := I.after hq
      subst ez
      cases rz
      exact ⟨k, rfl, .bl (!k), H', I', rfl, q⟩
    | next => exact False.elim hq
    | brk => exact False.elim hq
    | cont => exact False.elim hq
theorem call_lenO (F : FnOk X.prog X.w X.K X.mg X.base CX n f fd ps sp) (hs : findIn X.K (.ref C) "__len__" = some (some (.ref f))) (hf : isFn X.K (.ref f) = true) (hb : Binds X.K fd ps []) (hx : Passes CX X E) (hr : Room (n + 1) X.A) :
    CallR X (.builtin "len") (rLenO C sp E) := by
  intro pins s σ H xs us Q I r hq
  obtain ⟨a, dx, fs, rfl, ha, hsp⟩ := hq
  obtain ⟨u, eu, rx⟩ := vals1 r
  subst eu
  cases rx
  obtain ⟨mA, J, _⟩ := ins_get I.hok ha
  obtain ⟨od, J, _⟩ := J.look
  have sb : Sub X (n + 1) X.A := ⟨hr, rfl⟩
  refine len_K I.kIn J hs hf ?_
  have e0 : Env0 X.prog X.w X.K X.mg X.base X.A.in1 X.stack s H := by
    have e := I.env0
    exact ⟨by rw [sb.in1.fr]; exact e.frames, e.mod, e.bs, e.bsz, e.funs, e.frf, e.hok, e.bare⟩
  have hl := F.len _ _ _ _ hsp
  refine wpAny_call (codeAny_mono (F.run X.A.in1 X.stack s H ⟨[.ref a], []⟩ [.ref a] [.ref a] _ E sb.in1.room e0 (by
    have := hb s [.ref a] I.kIn (by simpa using hl)
    simpa using this) (.cons rfl .nil) hsp) fun r s' hq => ?_)
  cases r with
  | error e => exact hx pins σ H s e s' I hq
  | ok fl =>
    cases fl with
    | ret w =>
      obtain ⟨z, H', I', rz, k, ez, lk, q⟩ := I.after hq
      subst ez
      obtain ⟨tk, rfl⟩ := rz
      exact ⟨(k : Int), tk, rfl, by omega, by omega, .int k, H', I'.tok _, ⟨_, rfl⟩, q⟩
    | next => exact False.elim hq
    | brk => exact False.elim hq
    | cont => exact False.elim hq
end
end Kn
end
section
/-! sorted(d, reverse=True) of a dict whose keys are ints -/
namespace Ks
open PySem PySem.Spec PyProof.Rows L2
def rSortedDR : List V → List V → Hp → VK → Prop := fun vs zs H Q => ∃ (a : Addr) (kvs : List (Key × V)) (ks : List Int), vs = [.ref a] ∧ zs = [.bl true] ∧ Rd H a (.dK kvs) ∧ kvs.map (·.1) = ks.map Sum.inl ∧ ks.length < 64 ∧
    ∀ (ys : List Int) (p : Addr), ys.Perm ks → ys.Pairwise (· ≥ ·) → H p = none → Q (.ref p) (upd H p (.lst (ys.map V.int)))
theorem cr_sortedDR {X : Cx} (hcalm : X.calm = true) : CallRK X (.builtin "sorted") [Str.ofString "reverse"] rSortedDR := by
  intro pins s σ H xs zs us ws Q I r rz q
  obtain ⟨a, kvs, ks, rfl, rfl, hd, hks, h64, q⟩ := q
  obtain ⟨u, eu, rx⟩ := vals1 r
  subst eu
  cases rx
  obtain ⟨w1, rfl, e1⟩ := vals1 rz
  obtain rfl : w1 = Value.bool true := e1
  obtain ⟨z, lo, vs, rel, dd⟩ := dk_rd I.hok hd
  obtain ⟨ep, hat⟩ := dd.dictAt
  have hkeys : vs.map (·.1) = ks.map Sum.inl := rel.keys.symm.trans hks
  have hl : vs.length = ks.length := by
    have e := congrArg List.length hkeys
    rw [List.length_map, List.length_map] at e
    exact e
  have h16 : vs.length ≤ sizeLine := by rw [hl, sizeLine_eq]; omega
  refine call_function_entry_kw PyProof.Rows.kind_sorted PyProof.Rows.plain_sorted PyProof.Rows.entry_sorted (PyProof.Rows.args_sorted_rev _ _) ?_
  unfold Builtin.«sorted»
  refine wpAny_bind (m := checkCount "sorted" 1 1 _) (wpAny_pure ?_)
  refine wpAny_bind (PySem.W.kdu_collect (A := X.A.in1) (PySem.W.kdl_dict (knd := mixKind X.prog X.w) (kvs := vs) (ep := ep) lo) (I.ok.hd hcalm) hat h16 fun h' tk acc hk hacc => ?_)
  have hal : acc.toList.length = ks.length := by rw [Array.length_toList, hacc.1, hl]
  have hS : IntsAre acc.toList ks := ints_each hal fun j v e => by
    obtain ⟨k, x, e1, e2⟩ := hacc.2 j v (by rw [← Array.getElem?_toList]; exact e)
    have e3 : (vs.map (·.1))[j]? = some k := by rw [List.getElem?_map, e1]; rfl
    rw [hkeys, List.getElem?_map] at e3
    cases e4 : ks[j]? with
    | none => rw [e4] at e3; cases e3
    | some y =>
      rw [e4] at e3
      have e5 : Sum.inl y = k := Option.some.inj e3
      subst e5
      rcases keyIs_shape (show keyIs (Sum.inl y) v = true from e2) with ⟨i, t, ek, ev⟩ | ⟨z, t, ek, ev⟩
      · cases ek
        exact ⟨y, t, rfl, ev⟩
      · cases ek
  have I1 : Inv X pins σ H { s with heap := h', toks := tk } := I.kept hk
  have hz : acc.toList.length ≤ sizeLine := by rw [hal, sizeLine_eq]; omega
  refine wpAny_bind (wpAny_newList ?_ hz)
  have hoL : (h'.push (seqObj "list" acc.toList.toArray 0)).get? h'.objs.size = some (seqObj "list" acc.toList.toArray 0) := Heap.get?_push_size _ rfl
  show wpAny _ _ _ _ _ { s with heap := h'.push (seqObj "list" acc.toList.toArray 0), toks := tk }
  refine wpAny_bind (wpAny_holding (wpAny_call_entry_kw PyProof.Rows.slot_list_sort ⟨_, hoL, rfl⟩ PyProof.Rows.entry_list_sort
    (SrtR.list_sort_ordR (b := true) (s := { s with heap := h'.push (seqObj "list" acc.toList.toArray 0), toks := tk }) SrtO.swo_int hoL hz (fun h2 => SrtO.ints_sortable hS h2) fun out h1 h2 => ⟨_, rfl, ?_⟩) (PyProof.Rows.args_list_sort_rev _ _)))
  obtain ⟨ys, k1, k2, k3⟩ := SrtR.ints_outR (b := true) hS h1 h2
  obtain ⟨e', he'⟩ := PyProof.Rows.sortedHeap_at (vs := acc.toList) (out := out.toArray.reverse) hoL
  have hlen : (ys.map V.int).length ≤ sizeLine := by
    rw [List.length_map, k2.length_eq]
    exact Nat.le_trans (Nat.le_of_lt h64) (by decide)
  refine wpAny_pure ⟨_, rfl, .ref h'.objs.size, upd H h'.objs.size (.lst (ys.map V.int)), I1.laid (t' := tk) (fun b u e => ?_) (Nat.le_refl _)
    (show ObjOk X.prog X.w _ _ _ (.lst (ys.map V.int)) from ⟨hlen, out.toArray.reverse.toList, e', vals_of_ints k1, by rw [Array.toArray_toList]; exact he'⟩), rfl, q ys _ k2 k3 (I1.hok.fresh (Nat.le_refl _))⟩
  have hb : b < h'.objs.size := Heap.lt_size e
  rw [if_pos rfl, PyProof.Rows.sortedHeap_old (Nat.ne_of_lt hb) (by rw [size_push']; exact Nat.lt_succ_of_lt hb)]
  exact Heap.get?_push_of_some _ e
end Ks
end
section
/-! rules of our own: keywords, a comparison by an own ==, len of an instance, dict(zip(..)), d.update(d2) -/
namespace Kr
open PySem PySem.Spec PyProof.Rows L2
/-! ### keywords -/
section
variable {K : PySem.W.Frag} {x qual : Str} {params : Arguments} {body : List Stmt} {scope : Scope} {kws : List (Str × V)} {f : Addr} {fd : FuncData} {ps : List Str}
theorem kbn (F : FunD K x qual params body scope [] kws f fd) (n : Nat) (ks : List Str) (g : {α : Type} → List α → List α → List α)
    (hrel : ∀ {vs zs : List V} {us ws : List Value}, Vals vs us → Vals zs ws → Vals (g vs zs) (g us ws))
    (h : ∀ (kV doc pm : Value) (an : Option Addr) (cdv ct : Value) (us ws : List Value), us.length = n → ws.length = ks.length → bindArgs (PySem.W.fnOf x qual params body scope .none kV doc pm an cdv ct) ⟨us, ks.zip ws⟩ = pure (ps.zip (g us ws))) :
    KBn K fd ps n ks (fun us ws => g us ws) (fun vs zs => g vs zs) := by
  obtain ⟨oc, od, dV, kV, doc, pm, an, cdv, ct, osl, rfl, lk, hcd, hD, hK⟩ := F.ex
  rcases hD with ⟨_, rfl⟩ | ⟨e, _⟩
  · exact ⟨fun s us ws X l1 l2 => .of_eq (h kV doc pm an cdv ct us ws l1 l2), fun r1 r2 => hrel r1 r2⟩
  · exact absurd rfl e
end
def tMethN (C : Addr) (m : Str) (n mm : Nat) (sp : Sp) (gV : List V → List V → List V) (E : XK) (ta : TE) (t tk : TA) : TE := fun σ H Q => ta σ H fun x H1 => ∃ a dx fs, x = .ref a ∧ H1 a = some (.ins C dx fs) ∧ fs.lookup m = none ∧
  t σ H1 fun vs H2 => tk σ H2 fun zs H3 => vs.length = n ∧ zs.length = mm ∧ sp (gV (x :: vs) zs) H3 Q E
section
variable {X : Cx} {CX : CXT} {k n : Nat} {f C : Addr} {fd : FuncData} {ps ks : List Str} {sp : Sp} {E : XK} {x m : Str} {p pos apos : Pos} {o e : Expr} {es : List Expr} {kws : List Keyword} {ta : TE} {t tk : TA} {g : List Value → List Value → List Value} {gV : List V → List V → List V}
/-- f(k = v, ..) -/
theorem pe_callN0 (F : FnOk X.prog X.w X.K X.mg X.base CX k f fd ps sp) (hr : Room k X.A) (hg : Gl X x) (hm : X.mg x = some (.ref f)) (hk : PySem.W.keepIn X.K (.ref f) = true) (hb : KBn X.K fd ps 0 ks g gV) (hx : Passes CX X E) (hkw : PK X kws tk)
    (hall : (backToKw pos (keywordEach kws X.env)).all (·.1.isSome) = true := by rfl) (hks : (backToKw pos (keywordEach kws X.env)).filterMap (·.1) = ks := by rfl) (hdb : (x == ("__debug__" : Str)) = false := by decide)
    (hpl : ((backTo pos (starEach [] X.env)).any (·.1) || (backToKw pos (keywordEach kws X.env)).any (·.1.isNone)) = false := by rfl) :
    PE X (.Call (.Name x p) [] kws pos) (tCallN 0 ks.length sp gV E tNil tk) := by
  refine ⟨fun pins s σ H Q I h => ?_⟩
  refine wpAny_Call_Name_kw (ld_glob I hg hm ?_ hdb)
  refine PySem.W.callWith_KW0 (h₀ := X.base) I.ok.mod.kin hk hall ?_ hpl
  refine thn (hkw.run pos pins s σ H _ I h) fun ws s2 ⟨zs, H2, I2, rz, l1, l2, q2⟩ => ⟨I2.kIn, ?_⟩
  rw [hks]
  exact run_fnN (us := []) (vs := []) F hr hb hx I2 .nil rz rfl l2 q2
/-- o.m(e, .., k = v, ..) -/
theorem pe_methN {pl : Sem Bool} (he : PE X o ta) (c : Cls X.K C) (hm : Meth X.K C m f) (F : FnOk X.prog X.w X.K X.mg X.base CX k f fd ps sp) (hr : Room k X.A) (hb : KBn X.K fd ps (n + 1) ks g gV) (hx : Passes CX X E) (ha : PA X (e :: es) t) (hkw : PK X kws tk)
    (hall : (backToKw pos (keywordEach kws X.env)).all (·.1.isSome) = true := by rfl) (hks : (backToKw pos (keywordEach kws X.env)).filterMap (·.1) = ks := by rfl)
    (hst : starEach (e :: es) X.env = (false, eval e X.env) :: starEach es X.env := by rfl)
    (hpl : ((backTo pos (starEach (e :: es) X.env)).any (·.1) || (backToKw pos (keywordEach kws X.env)).any (·.1.isNone)) = false := by rfl)
    (ht : eval (.Call (.Attribute o m apos) (e :: es) kws pos) X.env = (do
      let ov ← eval o X.env
      standAt apos.atName
      let (f, first) ← holding [ov] (getMethod ov m pl)
      callWith pos f first (backTo pos (starEach (e :: es) X.env)) (backToKw pos (keywordEach kws X.env))) := by rfl) :
    PE X (.Call (.Attribute o m apos) (e :: es) kws pos) (tMethN C m n ks.length sp gV E ta t tk) := by
  refine ⟨fun pins s σ H Q I h => ?_⟩
  refine PySem.W.methodCall_KW (pl := pl) (thn (he.run pins s σ H _ I h) fun u s1 ⟨x, H1, I1, rx, a, dx, fs, ex, ea, l, q⟩ => ?_) ht
  subst ex
  obtain rfl : u = Value.ref a := rx
  refine getmeth_ok I1 ea c hm l ?_
  refine PySem.W.callWith_KW (first := [.ref a]) (h₀ := X.base) I.ok.mod.kin hm.kp hall (thn (ha.run pos pins s1 σ H1 _ I1 q) fun us s2 ⟨vs, H2, I2, r, q⟩ => ?_) hpl hst
  refine thn (hkw.run pos pins s2 σ H2 _ I2 q) fun ws s3 ⟨zs, H3, I3, rz, l1, l2, q2⟩ => ⟨I3.kIn, ?_⟩
  rw [hks]
  exact run_fnN (us := .ref a :: us) (vs := .ref a :: vs) F hr hb hx I3 (.cons rfl r) rz (congrArg Nat.succ l1) l2 q2
/-- o.m(k = v, ..) -/
theorem pe_methN0 {pl : Sem Bool} (he : PE X o ta) (c : Cls X.K C) (hm : Meth X.K C m f) (F : FnOk X.prog X.w X.K X.mg X.base CX k f fd ps sp) (hr : Room k X.A) (hb : KBn X.K fd ps 1 ks g gV) (hx : Passes CX X E) (hkw : PK X kws tk)
    (hall : (backToKw pos (keywordEach kws X.env)).all (·.1.isSome) = true := by rfl) (hks : (backToKw pos (keywordEach kws X.env)).filterMap (·.1) = ks := by rfl)
    (hpl : ((backTo pos (starEach [] X.env)).any (·.1) || (backToKw pos (keywordEach kws X.env)).any (·.1.isNone)) = false := by rfl)
    (ht : eval (.Call (.Attribute o m apos) [] kws pos) X.env = (do
      let ov ← eval o X.env
      standAt apos.atName
      let (f, first) ← holding [ov] (getMethod ov m pl)
      callWith pos f first (backTo pos (starEach [] X.env)) (backToKw pos (keywordEach kws X.env))) := by rfl) :
    PE X (.Call (.Attribute o m apos) [] kws pos) (tMethN C m 0 ks.length sp gV E ta tNil tk) := by
  refine ⟨fun pins s σ H Q I h => ?_⟩
  refine PySem.W.methodCall_KW (pl := pl) (thn (he.run pins s σ H _ I h) fun u s1 ⟨x, H1, I1, rx, a, dx, fs, ex, ea, l, q⟩ => ?_) ht
  subst ex
  obtain rfl : u = Value.ref a := rx
  refine getmeth_ok I1 ea c hm l ?_
  refine PySem.W.callWith_KW0 (first := [.ref a]) (h₀ := X.base) I.ok.mod.kin hm.kp hall ?_ hpl
  refine thn (hkw.run pos pins s1 σ H1 _ I1 q) fun ws s3 ⟨zs, H3, I3, rz, l1, l2, q2⟩ => ⟨I3.kIn, ?_⟩
  rw [hks]
  exact run_fnN (us := [.ref a]) (vs := [.ref a]) F hr hb hx I3 (.cons rfl .nil) rz rfl l2 q2
end
/-! ### e(..), e any expression that holds a made lambda -/
section
variable {X : Cx} {L : Hp → Addr → Prop} {sp : Addr → Sp} {k j : Nat} {t : TA} {tf : TE} {fe e : Expr} {es : List Expr} {p pos : Pos}
theorem pe_callME (hfe : PE X fe tf) (F : Kl.LOk X.prog X.w X.K X.mg X.base k L sp) (hL : ∀ H f, L H f → ∃ M, H f = some (Kl.LamO f M)) (hr : Room j X.A) (hk : k ≤ j) (ha : PA X (e :: es) t)
    (ht : eval (.Call fe (e :: es) [] pos) X.env = (do callWith pos (← eval fe X.env) [] (backTo pos (starEach (e :: es) X.env)) (backToKw pos (keywordEach [] X.env))) := by rfl)
    (he : starEach (e :: es) X.env = (false, eval e X.env) :: starEach es X.env := by rfl) (hpl : (backTo pos (starEach es X.env)).any (·.1) = false := by rfl) :
    PE X (.Call fe (e :: es) [] pos) (Kl.tCallM L sp tf t) := by
  refine ⟨fun pins s σ H Q I h => ?_⟩
  refine Call_ (thn (hfe.run pins s σ H _ I h) fun u s1 ⟨v, H1, I1, r1, q1⟩ => ?_) ht
  obtain ⟨f, ev, hf, ht⟩ := q1
  subst ev
  obtain rfl : u = Value.ref f := r1
  obtain ⟨M, hM⟩ := hL _ _ hf
  refine PySem.W.callWith_F (first := []) (Kl.lam_fnAt I1 hM) (thn (ha.run pos pins s1 σ H1 _ I1 ht) fun us s2 ⟨vs, H2, I2, r, h1, q⟩ => ⟨let ⟨_, z⟩ := hL _ _ h1; Kl.lam_fnAt I2 z, ?_⟩) he hpl
  show wpAny _ _ (call (.ref f) us) _ _ _
  exact Kl.run_m F hr hk I2 h1 r q
end
end Kr
end
namespace Kx
open PySem PySem.Spec PyProof.Rows L2
section
local macro_rules | `(tactic| walk_at "hp") => `(tactic| first
  | assumption
  | exact upd_same
  | (refine' same_new (by assumption) _ _ ?_; walk_at "hp")
  | ((with_reducible apply SqT.of); walk_at "hp") | ((with_reducible apply SqL.of); walk_at "hp")
  | (refine' (show Same _ _ by assumption) _ _ ?_; walk_at "hp")
  | (refine' same_seqT (same_new (by assumption)) ?_; walk_at "hp")
  | (refine' Same.seq (same_new (by assumption)) ?_; walk_at "hp")
  | (refine' same_seqT (show Same _ _ by assumption) ?_; walk_at "hp")
  | (refine' Same.seq (show Same _ _ by assumption) ?_; walk_at "hp"))
local macro_rules | `(tactic| walk_at "sm") => `(tactic| first
  | assumption | exact Same.refl _
  | (refine' Same.trans ?_ (same_new (by assumption)); walk_at "sm")
  | (refine' Same.trans ?_ (show Same _ _ by assumption); walk_at "sm"))
local macro_rules | `(tactic| walk_at "ar") => `(tactic| first | assumption | omega | (simp only [List.length_cons, List.length_nil, List.length_append]; omega))
local macro_rules | `(tactic| walk_at "dt") => `(tactic| first | assumption | exact decide_eq_true (by walk_at "ar") | exact r_nd (decide_eq_false (by walk_at "ar")) | decide +kernel)
local macro_rules | `(tactic| walk_at "df") => `(tactic| first | assumption | exact decide_eq_false (by walk_at "ar") | exact r_nt (decide_eq_true (by walk_at "ar")) | decide +kernel)
local macro_rules | `(tactic| walk_at "rd1") => `(tactic| first
  | with_reducible refine iteT ?_
  | with_reducible refine iteF ?_
  | with_reducible refine iteNT ?_
  | with_reducible refine iteNF ?_
  | with_reducible refine r_seq ?_
  | with_reducible refine r_ret ?_
  | with_reducible refine r_retN ?_
  | with_reducible refine r_set ?_
  | with_reducible refine r_ifS ?_
  | with_reducible refine r_drop ?_
  | with_reducible refine r_next ?_
  | with_reducible refine r_c ?_
  | with_reducible refine r_cb ?_
  | with_reducible refine r_op ?_
  | with_reducible refine r_nil ?_
  | with_reducible refine r_cons ?_
  | with_reducible refine r_call ?_
  | with_reducible refine r_and ?_
  | with_reducible refine r_or ?_
  | with_reducible refine r_not ?_
  | with_reducible refine r_if ?_
  | with_reducible refine r_tb ?_
  | with_reducible refine r_test ?_
  | with_reducible refine r_tnot ?_
  | with_reducible refine r_tand ?_
  | with_reducible refine r_tor ?_
  | with_reducible refine r_bl ?_
  | with_reducible refine r_chain ?_
  | with_reducible refine r_i0 ?_
  | with_reducible refine r_eqI ?_
  | with_reducible refine r_eqS ?_
  | with_reducible refine r_neI ?_
  | with_reducible refine r_neS ?_
  | with_reducible refine r_neB ?_
  | with_reducible refine r_isi_int ?_
  | with_reducible refine r_isi_int_bool ?_
  | with_reducible refine r_isi_str ?_
  | with_reducible refine r_tup ?_
  | with_reducible refine r_lst ?_
  | ((with_reducible refine' r_var ?h1 ?_); (case h1 => rfl))
  | ((with_reducible refine' iteOf ?h1 ?_); (case h1 => walk_at "dt"))
  | ((with_reducible refine' iteOff ?h1 ?_); (case h1 => walk_at "df"))
  | ((with_reducible refine' r_lenS ?h1 ?_); (case h1 => first | assumption | exact small_le (by walk_at "ar")))
  | ((with_reducible refine' r_inT ?h1 ?h2 ?h3 ?_); (case h1 => walk_at "hp"); (case h2 => rfl); (case h3 => rfl))
  | ((with_reducible refine' r_notInD ?h1 ?h2 ?_); (case h1 => assumption); (case h2 => assumption))
  | ((with_reducible refine' r_ixD ?h1 ?h2 ?h3 ?_); (case h1 => assumption); (case h2 => assumption); (case h3 => assumption))
  | with_reducible refine r_sl ?_ | with_reducible refine r_part ?_ | with_reducible refine r_nopart ?_
  | ((with_reducible refine' r_slT1 ?h1 ?_); (case h1 => walk_at "hp")) | ((with_reducible refine' r_gTup2 ?h1 ?_); (case h1 => walk_at "hp"))
  | with_reducible refine r_al (fun _ _ => ?_) | ((with_reducible refine r_le ?h1 ?_); (case h1 => walk_at "ar"))
  | with_reducible refine r_max ?_ | with_reducible refine r_inS ?_ | with_reducible refine r_isNN ?_ | with_reducible refine r_isNR ?_ | with_reducible refine r_notNN ?_ | with_reducible refine r_notNR ?_
  | ((with_reducible refine' r_listL ?h1 ?_); (case h1 => walk_at "hp")) | ((with_reducible refine' r_listT ?h1 ?_); (case h1 => walk_at "hp"))
  | ((with_reducible refine' r_tupL ?h1 ?_); (case h1 => walk_at "hp")) | ((with_reducible refine' r_tupT ?h1 ?_); (case h1 => walk_at "hp"))
  | with_reducible refine r_lc ?_ | with_reducible refine r_iStr ?_ | with_reducible refine r_for ?_ | with_reducible refine r_iList ?_ | with_reducible refine r_iTup ?_ | with_reducible refine r_iEnum ?_ | with_reducible refine r_iZipS ?_ | with_reducible refine r_gName ?_
  | with_reducible refine ⟨_, rfl, ?_⟩
  | ((with_reducible refine' r_isi_tup ?h1 ?_); (case h1 => walk_at "hp"))
  | ((with_reducible refine' r_lenT ?h1 ?_); (case h1 => walk_at "hp")) | ((with_reducible refine' r_lenL ?h1 ?_); (case h1 => walk_at "hp"))
  | ((with_reducible refine' r_ixT0 ?h1 ?h2 ?_); (case h1 => walk_at "hp"); (case h2 => rfl))
  | ((with_reducible refine' r_ixL0 ?h1 ?h2 ?_); (case h1 => walk_at "hp"); (case h2 => rfl))
  | ((with_reducible refine' r_ixT1 ?h1 ?h2 ?_); (case h1 => walk_at "hp"); (case h2 => rfl))
  | ((with_reducible refine' r_ixL1 ?h1 ?h2 ?_); (case h1 => walk_at "hp"); (case h2 => rfl))
  | ((with_reducible refine' r_ixT2 ?h1 ?h2 ?_); (case h1 => walk_at "hp"); (case h2 => rfl))
  | ((with_reducible refine' r_ixL2 ?h1 ?h2 ?_); (case h1 => walk_at "hp"); (case h2 => rfl))
  | ((with_reducible refine' r_ixT3 ?h1 ?h2 ?_); (case h1 => walk_at "hp"); (case h2 => rfl))
  | ((with_reducible refine' r_ixL3 ?h1 ?h2 ?_); (case h1 => walk_at "hp"); (case h2 => rfl)))
local macro_rules | `(tactic| walk_at "rd") => `(tactic| repeat walk_at "rd1")
section
variable {P : Program} {w : World} {K : PySem.W.Frag} {mg : Str → Option Value} {base : Heap}
theorem sc_is_whole : FnScope ["thing", "low", "high"] ["thing", "low", "high"] (defScope s_is_whole) := ⟨rfl, rfl, rfl, by decide +kernel, rfl, by decide +kernel, by decide +kernel⟩
def sp_is_whole : Sp := fun vs H Q _ => ∃ i a b : Int, vs = [.int i, .int a, .int b] ∧ Q (.bl (decide (a ≤ i) && decide (i ≤ b))) H
theorem ok_is_whole (B : Bk w K mg) : C8.Cal P w K mg base 1 "is_whole" sp_is_whole [] := by
  obtain ⟨fd, F⟩ := D_is_whole B
  refine calD F (g_is_whole B) sc_is_whole (fun _ _ _ _ _ _ us hl => match us, hl with | [_, _, _], _ => rfl) (fun vs H Q E h => ?_) (fun cdv A outer s H vs Q E hr h => ?_)
  · obtain ⟨i, a, b, rfl, _⟩ := h
    rfl
  · obtain ⟨i, a, b, rfl, k⟩ := h
    refine ⟨_, pss_one (ps_ret (pe_and (pe_callB call_isi (by rfl) (b_isinstance B) (by decide +kernel) (pa_cons (pv 0) (pa_cons (pe_bltn (v := .ty "int") (by rfl) (b_int B) (by decide +kernel) rfl) pa_nil)))
      (pe_and (pe_not (pe_callB call_isi (by rfl) (b_isinstance B) (by decide +kernel) (pa_cons (pv 0) (pa_cons (pe_bltn (v := .ty "bool") (by rfl) (b_bool B) (by decide +kernel) rfl) pa_nil))))
       (pe_one (pe_chain op_le op_le (pv 1) (pv 0) (pv 2)))))), ?_⟩
    walk_at "rd"
    by_cases c : a ≤ i
    · rw [if_pos (decide_eq_true c)]
      walk_at "rd"
      rw [decide_eq_true c, Bool.true_and] at k
      exact k
    · rw [if_neg (by simp [c])]
      rw [decide_eq_false c, Bool.false_and] at k
      exact k
end
section
variable {P : Program} {w : World} {K : PySem.W.Frag} {mg : Str → Option Value} {base : Heap}
theorem sc_is_number : FnScope ["thing"] ["thing"] (defScope s_is_number) := ⟨rfl, rfl, rfl, by decide +kernel, rfl, by decide +kernel, by decide +kernel⟩
def sp_is_number : Sp := fun vs H Q _ => ∃ i : Int, vs = [.int i] ∧ Q (.bl (decide (0 ≤ i))) H
theorem ok_is_number (B : Bk w K mg) : C8.Cal P w K mg base 1 "is_number" sp_is_number [] := by
  obtain ⟨fd, F⟩ := D_is_number B
  refine calD F (g_is_number B) sc_is_number (fun _ _ _ _ _ _ us hl => match us, hl with | [_], _ => rfl) (fun vs H Q E h => ?_) (fun cdv A outer s H vs Q E hr h => ?_)
  · obtain ⟨i, rfl, _⟩ := h
    rfl
  · obtain ⟨i, rfl, k⟩ := h
    refine ⟨_, pss_one (ps_ret (pe_and (pe_callB call_isi (by rfl) (b_isinstance B) (by decide +kernel) (pa_cons (pv 0) (pa_cons (pe_bltn (v := .ty "int") (by rfl) (b_int B) (by decide +kernel) rfl) pa_nil)))
      (pe_and (pe_not (pe_callB call_isi (by rfl) (b_isinstance B) (by decide +kernel) (pa_cons (pv 0) (pa_cons (pe_bltn (v := .ty "bool") (by rfl) (b_bool B) (by decide +kernel) rfl) pa_nil))))
       (pe_one (pe_cmpR op_ge (pv 0) pe_int (nomark _)))))), ?_⟩
    walk_at "rd"
    exact k
/-! ### names -/
abbrev small : List Nat := [97, 98, 99, 100, 101, 102, 103, 104, 105, 106, 107, 108, 109, 110, 111, 112, 113, 114, 115, 116, 117, 118, 119, 120, 121, 122]
abbrev kept : List V := [.str "all", .str "fun", .str "same", .str "self", .str "put"]
/-- what is a name: one to eight small letters, none of the kept words -/
structure NameOk (x : Str) : Prop where
  lo : 1 ≤ x.length
  hi : x.length ≤ 8
  no : inV (.str x) kept = false
  sm : ∀ c ∈ x.cps.toList, c ∈ small
theorem KEPT_at (B : Bk w K mg) (H : Hp) : SqT K H (He.ga K "KEPT") kept := by
  obtain ⟨_, _, _, c⟩ := B.ex
  have e : (exO K && (He.tupB K "KEPT" v_KEPT && _)) = true := c.more
  exact He.tupB_ok (He.ba (He.ba e).2).1 H
theorem in_small {c : Nat} (h : c ∈ small) : (!(Builtin.Str.occurrences (Str.ofString "abcdefghijklmnopqrstuvwxyz") ⟨#[c]⟩ 0 (Str.ofString "abcdefghijklmnopqrstuvwxyz").length 1).isEmpty) = true := by
  have e : Str.ofString "abcdefghijklmnopqrstuvwxyz" = SX.S small := by decide +kernel
  rw [e]
  have q := SX.in_one small c
  have e2 : (⟨#[c]⟩ : Str) = SX.S [c] := rfl
  rw [e2, q]
  exact decide_eq_true h
theorem sc_is_name : FnScope ["thing", "sign"] ["thing"] (defScope s_is_name) := ⟨rfl, rfl, rfl, by decide +kernel, rfl, by decide +kernel, by decide +kernel⟩
def sp_is_name : Sp := fun vs H Q _ => ∃ x : Str, vs = [.str x] ∧ NameOk x ∧ ∀ H', Same H H' → Q (.bl true) H'
theorem ok_is_name (B : Bk w K mg) : C8.Cal P w K mg base 1 "is_name" sp_is_name [] := by
  obtain ⟨fd, F⟩ := D_is_name B
  refine calD F (g_is_name B) sc_is_name (fun _ _ _ _ _ _ us hl => match us, hl with | [_], _ => rfl) (fun vs H Q E h => ?_) (fun cdv A outer s H vs Q E hr h => ?_)
  · obtain ⟨i, rfl, _⟩ := h
    rfl
  · obtain ⟨x, rfl, N, k⟩ := h
    refine ⟨_, (pss_cons (ps_if (PW.pt (pw_or (pt_not (pt_val (pe_callB call_isi (by rfl) (b_isinstance B) (by decide +kernel) (pa_cons (pv 0) (pa_cons (pe_bltn (v := .ty "str") (by rfl) (b_str B) (by decide +kernel) rfl) pa_nil))))) (pw_or (pt_not (pt_chain op_le op_le pe_int (pe_callB call_lenS (by rfl) (b_len B) (by decide +kernel) (pa_cons (pv 0) pa_nil)) pe_int)) (pw_or1 (pt_cmpR op_in_seq (pv 0) (pe_glob (v := .ref (He.ga K "KEPT")) (by rfl) (g_KEPT B) rfl) (by rfl)))))) (pss_one (ps_ret pe_bl)) pss_nil)
      (pss_one (ps_ret (pe_callB (cr_all rfl) (by rfl) (b_all B) (by decide +kernel) (pa_cons (pe_lc (own := [("sign", 1)]) (tt := tYes) rfl sc_is_name.nd (pi_str (pv 0)) (blkOk_by (N := ["thing", "sign"]) (sc := defScope s_is_name) (by decide +kernel)) (fun _ _ _ _ _ => (pg_name (i := 1) sc_is_name.nd rfl (Or.inl rfl))) (fun _ _ _ _ _ => pts_nil) (fun _ _ _ _ _ => (pe_cmpR op_inS (pv 1) (pe_gs (i_SMALL B)) (by rfl)))) pa_nil))))), ?_⟩
    have hlo := N.lo
    have hhi := N.hi
    have hno := N.no
    have hk := KEPT_at B H
    walk_at "rd"
    refine lc_map (J := Its x) x.cps.size (small_le (by have := N.hi; unfold Str.length at this; omega)) (fun _ y _ => y = .bl true) (fun _ _ _ _ e _ => e) (fun i H' hi _ => hi) (fun H' _ => (Nat.le_refl x.cps.size : x.cps.size ≤ x.cps.size)) (fun i y H1 H2 R hi s1 hy hR => ?_) (fun L ys H' nl s2 hL hlen hall => ?_)
    · obtain ⟨rfl, c, hc, rfl⟩ := hy
      have hs : c ∈ small := N.sm c (by
        have q := Array.mem_of_getElem? hc
        exact Array.mem_toList_iff.mpr q)
      have hin := in_small hs
      walk_at "rd"
      refine ⟨rfl, ?_⟩
      walk_at "rd"
      rw [hin]
      exact hR _ _ (Same.refl _) rfl
    · walk_at "rd"
      exact r_allT hL hall (k _ s2)
end
section
variable {P : Program} {w : World} {K : PySem.W.Frag} {mg : Str → Option Value} {base : Heap}
/-! ### terms -/
inductive T where
  | at_ (k : Nat) | kind (h : Nat) | all (a b : T) | fn (a b : T) | app (f a : T) | name (n : Str) | thing (n : Str) | maker (n : Str) (k : Nat) | eater (n : Str) (h : Nat) | same (a x y : T) | self (a x : T) | put (p e x : T)
  deriving DecidableEq
def T.depth : T → Nat
  | .all a b => max a.depth b.depth + 1
  | .fn a b => max a.depth b.depth + 1
  | .app a b => max a.depth b.depth + 1
  | .same a x y => max a.depth (max x.depth y.depth) + 1
  | .self a x => max a.depth x.depth + 1
  | .put a x y => max a.depth (max x.depth y.depth) + 1
  | _ => 0
def T.ok : T → Prop
  | .kind h => h ≤ 5
  | .eater n h => NameOk n ∧ h ≤ 5
  | .name n => NameOk n
  | .thing n => NameOk n
  | .maker n _ => NameOk n
  | .all a b => a.ok ∧ b.ok
  | .fn a b => a.ok ∧ b.ok
  | .app a b => a.ok ∧ b.ok
  | .same a x y => a.ok ∧ x.ok ∧ y.ok
  | .self a x => a.ok ∧ x.ok
  | .put a x y => a.ok ∧ x.ok ∧ y.ok
  | .at_ _ => True
/-- the value v stands for the term t -/
def Tm (H : Hp) : T → V → Prop
  | .at_ k, v => ∃ p, v = .ref p ∧ H p = some (.tup [.str "at", .int k])
  | .kind k, v => ∃ p, v = .ref p ∧ H p = some (.tup [.str "kind", .int k])
  | .all a b, v => ∃ p x y, v = .ref p ∧ H p = some (.tup [.str "all", x, y]) ∧ Tm H a x ∧ Tm H b y
  | .fn a b, v => ∃ p x y, v = .ref p ∧ H p = some (.tup [.str "fun", x, y]) ∧ Tm H a x ∧ Tm H b y
  | .app a b, v => ∃ p x y, v = .ref p ∧ H p = some (.tup [.str "app", x, y]) ∧ Tm H a x ∧ Tm H b y
  | .name n, v => ∃ p, v = .ref p ∧ H p = some (.tup [.str "name", .str n])
  | .thing n, v => ∃ p, v = .ref p ∧ H p = some (.tup [.str "thing", .str n])
  | .maker n k, v => ∃ p, v = .ref p ∧ H p = some (.tup [.str "maker", .str n, .int k])
  | .eater n k, v => ∃ p, v = .ref p ∧ H p = some (.tup [.str "eater", .str n, .int k])
  | .same a b c, v => ∃ p x y z, v = .ref p ∧ H p = some (.tup [.str "same", x, y, z]) ∧ Tm H a x ∧ Tm H b y ∧ Tm H c z
  | .self a b, v => ∃ p x y, v = .ref p ∧ H p = some (.tup [.str "self", x, y]) ∧ Tm H a x ∧ Tm H b y
  | .put a b c, v => ∃ p x y z, v = .ref p ∧ H p = some (.tup [.str "put", x, y, z]) ∧ Tm H a x ∧ Tm H b y ∧ Tm H c z
/-- it stands wherever the tuples stand -/
theorem Tm.mono {H H' : Hp} (h : ∀ b xs, H b = some (.tup xs) → H' b = some (.tup xs)) : ∀ {t : T} {v : V}, Tm H t v → Tm H' t v
  | .at_ _, _, ⟨p, e, q⟩ => ⟨p, e, h _ _ q⟩
  | .kind _, _, ⟨p, e, q⟩ => ⟨p, e, h _ _ q⟩
  | .all _ _, _, ⟨p, x, y, e, q, a, b⟩ => ⟨p, x, y, e, h _ _ q, a.mono h, b.mono h⟩
  | .fn _ _, _, ⟨p, x, y, e, q, a, b⟩ => ⟨p, x, y, e, h _ _ q, a.mono h, b.mono h⟩
  | .app _ _, _, ⟨p, x, y, e, q, a, b⟩ => ⟨p, x, y, e, h _ _ q, a.mono h, b.mono h⟩
  | .name _, _, ⟨p, e, q⟩ => ⟨p, e, h _ _ q⟩
  | .thing _, _, ⟨p, e, q⟩ => ⟨p, e, h _ _ q⟩
  | .maker _ _, _, ⟨p, e, q⟩ => ⟨p, e, h _ _ q⟩
  | .eater _ _, _, ⟨p, e, q⟩ => ⟨p, e, h _ _ q⟩
  | .same _ _ _, _, ⟨p, x, y, z, e, q, a, b, c⟩ => ⟨p, x, y, z, e, h _ _ q, a.mono h, b.mono h, c.mono h⟩
  | .self _ _, _, ⟨p, x, y, e, q, a, b⟩ => ⟨p, x, y, e, h _ _ q, a.mono h, b.mono h⟩
  | .put _ _ _, _, ⟨p, x, y, z, e, q, a, b, c⟩ => ⟨p, x, y, z, e, h _ _ q, a.mono h, b.mono h, c.mono h⟩
theorem Tm.same {H H' : Hp} (s : Same H H') {t : T} {v : V} (h : Tm H t v) : Tm H' t v := h.mono fun b xs e => s b _ e
/-- a part of a term of depth at most d by its letter -/
def PartOk (H : Hp) (d : Nat) (c : Nat) (x : V) : Prop :=
  (c = 110 ∧ ∃ i : Int, x = .int i ∧ 0 ≤ i) ∨ (c = 104 ∧ ∃ i : Int, x = .int i ∧ 0 ≤ i ∧ i ≤ 5) ∨ (c = 119 ∧ ∃ n, x = .str n ∧ NameOk n) ∨ (c = 116 ∧ ∃ t, Tm H t x ∧ t.ok ∧ t.depth < d)
def PartsOk (H : Hp) (d : Nat) : List Nat → List V → Prop
  | [], [] => True
  | c :: cs, x :: xs => PartOk H d c x ∧ PartsOk H d cs xs
  | _, _ => False
theorem PartsOk.len {H : Hp} {d : Nat} : ∀ {cs : List Nat} {xs : List V}, PartsOk H d cs xs → cs.length = xs.length
  | [], [], _ => rfl
  | _ :: _, _ :: _, ⟨_, h⟩ => congrArg Nat.succ (PartsOk.len h)
theorem PartsOk.at {H : Hp} {d : Nat} : ∀ {cs : List Nat} {xs : List V}, PartsOk H d cs xs → ∀ {i : Nat} {c : Nat} {x : V}, cs[i]? = some c → xs[i]? = some x → PartOk H d c x
  | c :: cs, x :: xs, ⟨p, h⟩, 0, _, _, e1, e2 => by
    simp at e1 e2
    subst e1 e2
    exact p
  | c :: cs, x :: xs, ⟨p, h⟩, i + 1, _, _, e1, e2 => h.at (by simpa using e1) (by simpa using e2)
theorem PartOk.same {H H' : Hp} (s : Same H H') {d c : Nat} {x : V} (p : PartOk H d c x) : PartOk H' d c x := by
  rcases p with p | p | p | ⟨e, t, h, o⟩
  · exact .inl p
  · exact .inr (.inl p)
  · exact .inr (.inr (.inl p))
  · exact .inr (.inr (.inr ⟨e, t, h.same s, o⟩))
theorem PartOk.le {H : Hp} {d d' c : Nat} {x : V} (h : d ≤ d') (p : PartOk H d c x) : PartOk H d' c x := by
  rcases p with p | p | p | ⟨e, t, h1, o, l⟩
  · exact .inl p
  · exact .inr (.inl p)
  · exact .inr (.inr (.inl p))
  · exact .inr (.inr (.inr ⟨e, t, h1, o, Nat.lt_of_lt_of_le l h⟩))
theorem FORMS_at (B : Bk w K mg) : ∃ es n, KDict K w (He.ga K "FORMS_terms") es n := by
  obtain ⟨_, _, _, c⟩ := B.ex
  exact c.t.tab 0 (t := (fun K => He.ga K "FORMS_terms", ["at", "kind", "all", "fun", "app", "name", "thing", "maker", "eater", "same", "self", "put"])) rfl
theorem FORMS_val (B : Bk w K mg) {q : Str × He.Dv} (hq : q ∈ v_FORMS_terms) : ∃ u, PySem.W.nsIn K (He.ga K "FORMS_terms") q.1 = some (some u) ∧ RelV (q.2.v K) u := by
  obtain ⟨_, _, _, c⟩ := B.ex
  have e : (exO K && (He.tupB K "KEPT" v_KEPT && (He.valsB K (He.ga K "FORMS_terms") v_FORMS_terms && _))) = true := c.more
  exact He.valsB_ok (He.ba (He.ba (He.ba e).2).2).1 hq
/-- a term by its word and its parts -/
theorem Tm.view (B : Bk w K mg) {H : Hp} {t : T} {v : V} (h : Tm H t v) (o : t.ok) : ∃ (p : Addr) (x f : Str) (xs : List V) (u : Value), v = .ref p ∧ H p = some (.tup (.str x :: xs)) ∧ PySem.W.nsIn K (He.ga K "FORMS_terms") x = some (some u) ∧ RelV (.str f) u ∧ f.length ≤ 3 ∧ PartsOk H t.depth f.cps.toList xs := by
  have fin : ∀ {p : Addr} {x f : Str} {xs : List V}, (x, He.Dv.str f) ∈ v_FORMS_terms → v = .ref p → H p = some (.tup (.str x :: xs)) → f.length ≤ 3 → PartsOk H t.depth f.cps.toList xs →
      ∃ (p : Addr) (x f : Str) (xs : List V) (u : Value), v = .ref p ∧ H p = some (.tup (.str x :: xs)) ∧ PySem.W.nsIn K (He.ga K "FORMS_terms") x = some (some u) ∧ RelV (.str f) u ∧ f.length ≤ 3 ∧ PartsOk H t.depth f.cps.toList xs := fun {p x f xs} hm hv hp hl ho => by
    obtain ⟨u, h1, h2⟩ := FORMS_val B hm
    exact ⟨p, x, f, xs, u, hv, hp, h1, h2, hl, ho⟩
  have tm : ∀ {s : T} {y : V} {d : Nat}, Tm H s y → s.ok → s.depth < d → PartOk H d 116 y := fun {s y d} a b c => .inr (.inr (.inr ⟨rfl, s, a, b, c⟩))
  cases t with
  | at_ k => obtain ⟨p, e, q⟩ := h; exact fin (f := "n") (List.mem_of_getElem? (i := 0) rfl) e q (by decide) ⟨.inl ⟨rfl, _, rfl, Int.natCast_nonneg _⟩, trivial⟩
  | kind k => obtain ⟨p, e, q⟩ := h; have o' : k ≤ 5 := o; exact fin (f := "h") (List.mem_of_getElem? (i := 1) rfl) e q (by decide) ⟨.inr (.inl ⟨rfl, _, rfl, Int.natCast_nonneg _, by omega⟩), trivial⟩
  | all a b => obtain ⟨p, x, y, e, q, h1, h2⟩ := h; exact fin (f := "tt") (List.mem_of_getElem? (i := 2) rfl) e q (by decide) ⟨tm h1 o.1 (by simp only [T.depth]; omega), tm h2 o.2 (by simp only [T.depth]; omega), trivial⟩
  | fn a b => obtain ⟨p, x, y, e, q, h1, h2⟩ := h; exact fin (f := "tt") (List.mem_of_getElem? (i := 3) rfl) e q (by decide) ⟨tm h1 o.1 (by simp only [T.depth]; omega), tm h2 o.2 (by simp only [T.depth]; omega), trivial⟩
  | app a b => obtain ⟨p, x, y, e, q, h1, h2⟩ := h; exact fin (f := "tt") (List.mem_of_getElem? (i := 4) rfl) e q (by decide) ⟨tm h1 o.1 (by simp only [T.depth]; omega), tm h2 o.2 (by simp only [T.depth]; omega), trivial⟩
  | name n => obtain ⟨p, e, q⟩ := h; exact fin (f := "w") (List.mem_of_getElem? (i := 5) rfl) e q (by decide) ⟨.inr (.inr (.inl ⟨rfl, _, rfl, o⟩)), trivial⟩
  | thing n => obtain ⟨p, e, q⟩ := h; exact fin (f := "w") (List.mem_of_getElem? (i := 6) rfl) e q (by decide) ⟨.inr (.inr (.inl ⟨rfl, _, rfl, o⟩)), trivial⟩
  | maker n k => obtain ⟨p, e, q⟩ := h; exact fin (f := "wn") (List.mem_of_getElem? (i := 7) rfl) e q (by decide) ⟨.inr (.inr (.inl ⟨rfl, _, rfl, o⟩)), .inl ⟨rfl, _, rfl, Int.natCast_nonneg _⟩, trivial⟩
  | eater n k => obtain ⟨p, e, q⟩ := h; have o2 : k ≤ 5 := o.2; exact fin (f := "wh") (List.mem_of_getElem? (i := 8) rfl) e q (by decide) ⟨.inr (.inr (.inl ⟨rfl, _, rfl, o.1⟩)), .inr (.inl ⟨rfl, _, rfl, Int.natCast_nonneg _, by omega⟩), trivial⟩
  | same a b c => obtain ⟨p, x, y, z, e, q, h1, h2, h3⟩ := h; exact fin (f := "ttt") (List.mem_of_getElem? (i := 9) rfl) e q (by decide) ⟨tm h1 o.1 (by simp only [T.depth]; omega), tm h2 o.2.1 (by simp only [T.depth]; omega), tm h3 o.2.2 (by simp only [T.depth]; omega), trivial⟩
  | self a b => obtain ⟨p, x, y, e, q, h1, h2⟩ := h; exact fin (f := "tt") (List.mem_of_getElem? (i := 10) rfl) e q (by decide) ⟨tm h1 o.1 (by simp only [T.depth]; omega), tm h2 o.2 (by simp only [T.depth]; omega), trivial⟩
  | put a b c => obtain ⟨p, x, y, z, e, q, h1, h2, h3⟩ := h; exact fin (f := "ttt") (List.mem_of_getElem? (i := 11) rfl) e q (by decide) ⟨tm h1 o.1 (by simp only [T.depth]; omega), tm h2 o.2.1 (by simp only [T.depth]; omega), tm h3 o.2.2 (by simp only [T.depth]; omega), trivial⟩
/-! ### has_form and is_term -/
def sp_has_form (d : Nat) : Sp := fun vs H Q _ => ∃ (c : Nat) (x : V), vs = [.str ⟨#[c]⟩, x] ∧ PartOk H d c x ∧ ∀ H', Same H H' → Q (.bl true) H'
def sp_is_term (d : Nat) : Sp := fun vs H Q _ => ∃ (t : T) (v : V), vs = [v] ∧ Tm H t v ∧ t.ok ∧ t.depth < d ∧ ∀ H', Same H H' → Q (.bl true) H'
theorem sc_has_form_terms : FnScope ["letter", "thing"] ["letter", "thing"] (defScope s_has_form_terms) := ⟨rfl, rfl, rfl, by decide +kernel, rfl, by decide +kernel, by decide +kernel⟩
theorem ok_has_form_of (B : Bk w K mg) {d k : Nat} (hk : 1 ≤ k) (T' : C8.Cal P w K mg base k "is_term" (sp_is_term d) []) : C8.Cal P w K mg base (k + 1) "has_form_terms" (sp_has_form d) [] := by
  obtain ⟨fd, F⟩ := D_has_form_terms B
  refine calD F (g_has_form_terms B) sc_has_form_terms (fun _ _ _ _ _ _ us hl => match us, hl with | [_, _], _ => rfl) (fun vs H Q E h => ?_) (fun cdv A outer s H vs Q E hr h => ?_)
  · obtain ⟨i, x, rfl, _⟩ := h
    rfl
  · obtain ⟨c, x, rfl, p, kq⟩ := h
    refine ⟨_, (pss_cons (ps_if (pt_cmpR op_eq (pv 0) pe_str (nomark _)) (pss_one (ps_ret (C8.pe_c (ok_is_number B) hr hk (by rfl) (pa_cons (pv 1) pa_nil)))) pss_nil)
      (pss_cons (ps_if (pt_cmpR op_eq (pv 0) pe_str (nomark _)) (pss_one (ps_ret (C8.pe_c (ok_is_whole B) hr hk (by rfl) (pa_cons (pv 1) (pa_cons pe_int (pa_cons (pe_gi (i_MOST_KIND B)) pa_nil)))))) pss_nil)
      (pss_cons (ps_if (pt_cmpR op_eq (pv 0) pe_str (nomark _)) (pss_one (ps_ret (C8.pe_c (ok_is_name B) hr hk (by rfl) (pa_cons (pv 1) pa_nil)))) pss_nil)
      (pss_one (ps_ret (C8.pe_c T' hr (Nat.le_refl _) (by rfl) (pa_cons (pv 1) pa_nil))))))), ?_⟩
    rcases p with ⟨rfl, i, rfl, h0⟩ | ⟨rfl, i, rfl, h0, h5⟩ | ⟨rfl, n, rfl, hn⟩ | ⟨rfl, t, ht, ho, hd⟩
    · walk_at "rd"
      refine ⟨i, rfl, ?_⟩
      rw [decide_eq_true h0]
      exact kq _ (Same.refl _)
    · walk_at "rd"
      refine ⟨i, 0, 5, rfl, ?_⟩
      rw [decide_eq_true h0, decide_eq_true h5]
      exact kq _ (Same.refl _)
    · walk_at "rd"
      exact ⟨n, rfl, hn, kq⟩
    · walk_at "rd"
      exact ⟨t, x, rfl, ht, ho, hd, kq⟩
theorem sc_is_term : FnScope ["thing", "form", "letter", "part"] ["thing"] (defScope s_is_term) := ⟨rfl, rfl, rfl, by decide +kernel, rfl, by decide +kernel, by decide +kernel⟩
theorem ok_is_term_of (B : Bk w K mg) {d k : Nat} (hk : 1 ≤ k) (F' : C8.Cal P w K mg base k "has_form_terms" (sp_has_form d) []) : C8.Cal P w K mg base (k + 1) "is_term" (sp_is_term (d + 1)) [] := by
  obtain ⟨fd, F⟩ := D_is_term B
  refine calD F (g_is_term B) sc_is_term (fun _ _ _ _ _ _ us hl => match us, hl with | [_], _ => rfl) (fun vs H Q E h => ?_) (fun cdv A outer s H vs Q E hr h => ?_)
  · obtain ⟨t, x, rfl, _⟩ := h
    rfl
  · obtain ⟨t, v, rfl, ht, ho, hd, kq⟩ := h
    obtain ⟨p, x, f, xs, u, rfl, hp, hn, hu, hf, hps⟩ := ht.view B ho
    have KD := FORMS_at B
    have hlen := hps.len
    have hfl : f.cps.toList.length = f.length := by simp [Str.length]
    refine ⟨_, (pss_cons (ps_if (PW.pt (pw_or (pt_not (pt_val (pe_callB call_isi (by rfl) (b_isinstance B) (by decide +kernel) (pa_cons (pv 0) (pa_cons (pe_bltn (v := .ty "tuple") (by rfl) (b_tuple B) (by decide +kernel) rfl) pa_nil))))) (pw_or (pt_cmpR op_eq (pe_callB call_lenQ (by rfl) (b_len B) (by decide +kernel) (pa_cons (pv 0) pa_nil)) pe_int (nomark _)) (pw_or (pt_not (pt_val (pe_callB call_isi (by rfl) (b_isinstance B) (by decide +kernel) (pa_cons (pe_ix ix_tup (pv 0) pe_int (fun _ _ => rfl)) (pa_cons (pe_bltn (v := .ty "str") (by rfl) (b_str B) (by decide +kernel) rfl) pa_nil))))) (pw_or1 (pt_cmpR op_notInD (pe_ix ix_tup (pv 0) pe_int (fun _ _ => rfl)) (pe_glob (v := .ref (He.ga K "FORMS_terms")) (by rfl) (g_FORMS_terms B) rfl) (by rfl))))))) (pss_one (ps_ret pe_bl)) pss_nil)
      (pss_cons (ps_set (i := 1) sc_is_term.nd rfl (Or.inl rfl) (pe_ix ix_kdict (pe_glob (v := .ref (He.ga K "FORMS_terms")) (by rfl) (g_FORMS_terms B) rfl) (pe_ix ix_tup (pv 0) pe_int (fun _ _ => rfl)) (fun _ _ => rfl)))
      (pss_cons (ps_if (pt_cmpR op_ne (pe_callB call_lenQ (by rfl) (b_len B) (by decide +kernel) (pa_cons (pv 0) pa_nil)) (pe_op op_add (pe_callB call_lenS (by rfl) (b_len B) (by decide +kernel) (pa_cons (pv 1) pa_nil)) pe_int) (nomark _)) (pss_one (ps_ret pe_bl)) pss_nil)
      (pss_one (ps_ret (pe_callB (cr_all rfl) (by rfl) (b_all B) (by decide +kernel) (pa_cons (pe_lc (own := [("letter", 2), ("part", 3)]) (tt := tYes) rfl sc_is_term.nd (Rz.pi_zipS (by rfl) (b_zip B) (pa_cons (pv 1) (pa_cons (pe_slice sl_tup (pv 0) (po_some pe_int) po_none) pa_nil))) (blkOk_by (N := ["thing", "form", "letter", "part"]) (sc := defScope s_is_term) (by decide +kernel)) (fun _ _ _ _ _ => pg_tup2 (K0 := K) rfl (i := 2) (j := 3) rfl sc_is_term.nd rfl rfl (Or.inl rfl) (Or.inl rfl) (Or.inr rfl) (Or.inr rfl)) (fun _ _ _ _ _ => pts_nil) (fun _ _ _ _ _ => (C8.pe_c F' hr (Nat.le_refl _) (by rfl) (pa_cons (pv 2) (pa_cons (pv 3) pa_nil))))) pa_nil))))))), ?_⟩
    walk_at "rd"
    rename_i p1 np1
    refine ⟨f, p1, xs, rfl, by walk_at "hp", ?_⟩
    have hsz : f.cps.size = xs.length := by rw [← hlen]; simp
    have hxs : xs.length ≤ 3 := by rw [← hlen, hfl]; exact hf
    refine lc_map (J := Rz.ItzS K f p1) xs.length (small_le (by omega)) (fun _ y _ => y = .bl true) (fun _ _ _ _ e _ => e) (fun i H' hi s' => ⟨xs, same_seqT s' (SqT.of upd_same), by omega, hi⟩)
      (fun H' s' => ⟨xs, same_seqT s' (SqT.of upd_same), by omega, Nat.le_refl _, .inr rfl⟩) (fun i y H1 H2 R hi s1 hy hR => ?_) (fun L ys H' nl s2 hL hlen hall => ?_)
    · obtain ⟨T1, c, y, rfl, nT, rfl, hc, hyy⟩ := hy
      have hx : xs[i]? = some y := hyy xs (same_seqT s1 (SqT.of upd_same))
      have pp := hps.at (by simpa using hc) hx
      walk_at "rd"
      refine ⟨rfl, ?_⟩
      walk_at "rd"
      exact ⟨c, y, rfl, (pp.le (by omega)).same (by walk_at "sm"), fun H' s' => hR _ _ (by walk_at "sm") rfl⟩
    · walk_at "rd"
      exact r_allT hL hall (kq _ (by walk_at "sm"))
/-- is_term of terms of depth below d -/
theorem ok_is_term (B : Bk w K mg) : ∀ d : Nat, C8.Cal P w K mg base (2 * d + 1) "is_term" (sp_is_term d) []
  | 0 => by
    obtain ⟨fd, F⟩ := D_is_term B
    refine calD (k := 0) F (g_is_term B) sc_is_term (fun _ _ _ _ _ _ us hl => match us, hl with | [_], _ => rfl) (fun vs H Q E h => ?_) (fun cdv A outer s H vs Q E hr h => ?_)
    · obtain ⟨t, x, rfl, _⟩ := h
      rfl
    · obtain ⟨t, v, _, _, _, hd, _⟩ := h
      exact absurd hd (Nat.not_lt_zero _)
  | d + 1 => ok_is_term_of B (k := 2 * d + 2) (by omega) (ok_has_form_of B (k := 2 * d + 1) (by omega) (ok_is_term B d))
end
section
variable {P : Program} {w : World} {K : PySem.W.Frag} {mg : Str → Option Value} {base : Heap}
/-! ### more readings -/
theorem r_sm {R : Hp → Prop} (h : ∀ H', Same H H' → R H') : ∀ H', Same H H' → R H' := h
def tNevE : TE := fun _ _ _ => False
theorem pe_never {X : Cx} {e : Expr} : PE X e tNevE := ⟨fun _ _ _ _ _ _ h => h.elim⟩
def tNevT : TT := fun _ _ _ => False
theorem pt_never {X : Cx} {e : Expr} : PT X e tNevT := ⟨fun _ _ _ _ _ _ h => h.elim⟩
theorem ROWS_at (B : Bk w K mg) : ∃ es n, KDict K w (He.ga K "ROWS") es n := by
  obtain ⟨_, _, _, c⟩ := B.ex
  exact c.t.tab 1 rfl
theorem LOOKS_at (B : Bk w K mg) : ∃ es n, KDict K w (He.ga K "LOOKS") es n := by
  obtain ⟨_, _, _, c⟩ := B.ex
  exact c.t.tab 2 rfl
theorem FORMSd_at (B : Bk w K mg) : ∃ es n, KDict K w (He.ga K "FORMS_deeds") es n := by
  obtain ⟨_, _, _, c⟩ := B.ex
  exact c.t.tab 3 rfl
theorem DONE_at (B : Bk w K mg) : ∃ es n, KDict K w (He.ga K "DONE") es n := by
  obtain ⟨_, _, _, c⟩ := B.ex
  exact c.t.tab 4 rfl
theorem ROWS_val (B : Bk w K mg) {q : Str × He.Dv} (hq : q ∈ v_ROWS) : ∃ u, PySem.W.nsIn K (He.ga K "ROWS") q.1 = some (some u) ∧ RelV (q.2.v K) u := by
  obtain ⟨_, _, _, c⟩ := B.ex
  have e : ex K = true := c.more
  unfold ex at e
  exact He.valsB_ok (He.ba (He.ba (He.ba (He.ba e).2).2).2).1 hq
theorem LOOKS_val (B : Bk w K mg) {q : Str × He.Dv} (hq : q ∈ v_LOOKS) : ∃ u, PySem.W.nsIn K (He.ga K "LOOKS") q.1 = some (some u) ∧ RelV (q.2.v K) u := by
  obtain ⟨_, _, _, c⟩ := B.ex
  have e : ex K = true := c.more
  unfold ex at e
  exact He.valsB_ok (He.ba (He.ba (He.ba (He.ba (He.ba e).2).2).2).2).1 hq
theorem FORMSd_val (B : Bk w K mg) {q : Str × He.Dv} (hq : q ∈ v_FORMS_deeds) : ∃ u, PySem.W.nsIn K (He.ga K "FORMS_deeds") q.1 = some (some u) ∧ RelV (q.2.v K) u := by
  obtain ⟨_, _, _, c⟩ := B.ex
  have e : ex K = true := c.more
  unfold ex at e
  exact He.valsB_ok (He.ba (He.ba (He.ba (He.ba (He.ba (He.ba e).2).2).2).2).2).1 hq
theorem DONE_val (B : Bk w K mg) {q : Str × He.Dv} (hq : q ∈ v_DONE) : ∃ u, PySem.W.nsIn K (He.ga K "DONE") q.1 = some (some u) ∧ RelV (q.2.v K) u := by
  obtain ⟨_, _, _, c⟩ := B.ex
  have e : ex K = true := c.more
  unfold ex at e
  exact He.valsB_ok (He.ba (He.ba (He.ba (He.ba (He.ba (He.ba e).2).2).2).2).2).2 hq
theorem FORMS_val' (B : Bk w K mg) {x f : Str} (hq : (x, He.Dv.str f) ∈ v_FORMS_terms) : ∃ u, PySem.W.nsIn K (He.ga K "FORMS_terms") x = some (some u) ∧ RelV (.str f) u := FORMS_val B hq
/-! ### terms that are no worth of a step -/
def Lf : T → Prop
  | .kind _ => True | .name _ => True | .at_ _ => True | _ => False
/-- a row of a ground -/
def RowOk (K : PySem.W.Frag) (H : Hp) (n : Str) (v : V) : Prop := ∃ p k, v = .ref p ∧ H p = some (.tup [.str "hold", .str n, k]) ∧ Tm H (.kind 0) k ∧ NameOk n
theorem RowOk.same {H H' : Hp} (s : Same H H') {n : Str} {v : V} (h : RowOk K H n v) : RowOk K H' n v := by
  obtain ⟨p, k, e, a, b, c⟩ := h
  exact ⟨p, k, e, s _ _ a, b.same s, c⟩
/-- a ground: without rows, or with one -/
def gBy : Option (Str × V) → List (Key × V)
  | none => []
  | some r => [(.inr r.1, r.2)]
def gRows : Option (Str × V) → List V
  | none => []
  | some r => [r.2]
def Gr (K : PySem.W.Frag) (H : Hp) (o : Option (Str × V)) (v : V) : Prop := ∃ g dx l d, v = .ref g ∧ H g = some (.ins (He.ga K "Ground") dx [("kept_rows", .ref l), ("kept_by", .ref d)]) ∧ H l = some (.lst (gRows o)) ∧ H d = some (.dK (gBy o)) ∧ ∀ r, o = some r → RowOk K H r.1 r.2
theorem Gr.same {H H' : Hp} (s : Same H H') {o : Option (Str × V)} {v : V} (h : Gr K H o v) : Gr K H' o v := by
  obtain ⟨g, dx, l, d, e, a, b, c, r⟩ := h
  exact ⟨g, dx, l, d, e, s _ _ a, s _ _ b, s _ _ c, fun q z => (r q z).same s⟩
theorem Gr.row {H : Hp} {n : Str} {x v : V} (h : Gr K H (some (n, x)) v) : RowOk K H n x := by
  obtain ⟨_, _, _, _, _, _, _, _, r⟩ := h
  exact r _ rfl
/-- the ground knows the term's names -/
def St (o : Option (Str × V)) : T → Prop
  | .kind _ => True
  | .at_ _ => True
  | .name n => ∃ r, o = some (n, r)
  | .all a b => (Lf a ∧ Lf b) ∧ St o a ∧ St o b
  | _ => False
/-! ### promises -/
def sp_need_term : Sp := fun vs H Q _ => ∃ (t : T) (v : V), vs = [v] ∧ Tm H t v ∧ t.ok ∧ t.depth < 2 ∧ ∀ H', Same H H' → Q .non H'
def sp_inner : Sp := fun vs H Q _ => ∃ (t : T) (v : V), vs = [v] ∧ Tm H t v ∧ ((Lf t ∧ ∀ L H', Same H H' → H' L = some (.lst []) → Q (.ref L) H') ∨ ∃ a b p x y, t = .all a b ∧ v = .ref p ∧ H p = some (.tup [.str "all", x, y]) ∧ ∀ L H', Same H H' → H' L = some (.lst [x, y]) → Q (.ref L) H')
def sp_raise_in : Sp := fun vs H Q _ => ∃ (t : T) (v : V) (i j : Int), vs = [v, .int i, .int j] ∧ Tm H t v ∧ Lf t ∧ (∀ k, t ≠ .at_ k) ∧ ∀ H', Same H H' → Q v H'
def sp_row (K : PySem.W.Frag) : Sp := fun vs H Q _ => ∃ (n : Str) (v : V), vs = [v] ∧ RowOk K H n v ∧ ∀ H', Same H H' → Q (.bl true) H'
def sp_need_rows (K : PySem.W.Frag) : Sp := fun vs H Q _ => ∃ (l : Addr) (o : Option (Str × V)), vs = [.ref l] ∧ H l = some (.lst (gRows o)) ∧ (∀ r, o = some r → RowOk K H r.1 r.2) ∧ ∀ H', Same H H' → Q .non H'
def sp_Ground_init (K : PySem.W.Frag) : Sp := fun vs H Q _ => ∃ (x dx : Addr) (a : V) (o : Option (Str × V)), vs = [.ref x, a] ∧ H x = some (.ins (He.ga K "Ground") dx []) ∧ ((a = .non ∧ o = none) ∨ ∃ l, a = .ref l ∧ H l = some (.lst (gRows o)) ∧ (∀ r, o = some r → RowOk K H r.1 r.2)) ∧
  ∀ H', But x H H' → Gr K H' o (.ref x) → Q .non H'
def sp_Ground_rows (K : PySem.W.Frag) : Sp := fun vs H Q _ => ∃ (g : V) (o : Option (Str × V)), vs = [g] ∧ Gr K H o g ∧ ∀ L H', Same H H' → H' L = some (.lst (gRows o)) → Q (.ref L) H'
def sp_Ground_has (K : PySem.W.Frag) : Sp := fun vs H Q _ => ∃ (g : V) (n : Str) (o : Option (Str × V)), vs = [g, .str n] ∧ Gr K H o g ∧ ((o = none ∧ Q (.bl false) H) ∨ ∃ r, o = some (n, r) ∧ Q (.bl true) H)
def sp_Ground_told (K : PySem.W.Frag) : Sp := fun vs H Q _ => ∃ (g : V) (n : Str) (r : V), vs = [g, .str n] ∧ Gr K H (some (n, r)) g ∧ Q r H
def sp_with_row (K : PySem.W.Frag) : Sp := fun vs H Q _ => ∃ (g : V) (n : Str) (r : V), vs = [g, r] ∧ Gr K H none g ∧ RowOk K H n r ∧ ∀ g2 H', Same H H' → Gr K H' (some (n, r)) g2 → Q g2 H'
def sp_need_ground (K : PySem.W.Frag) : Sp := fun vs H Q _ => ∃ (g : V) (o : Option (Str × V)), vs = [g] ∧ Gr K H o g ∧ Q .non H
def sp_row_of (K : PySem.W.Frag) : Sp := fun vs H Q _ => ∃ (g : V) (n : Str) (r : V), vs = [g, .str n, .str "mean"] ∧ Gr K H (some (n, r)) g ∧ ∀ H', Same H H' → Q .non H'
def sp_gone (K : PySem.W.Frag) : Sp := fun vs H Q _ => ∃ (g : V) (o : Option (Str × V)) (t : T) (v : V), vs = [g, v] ∧ Gr K H o g ∧ Tm H t v ∧ St o t ∧ ∀ H', Same H H' → Q .non H'
def sp_first_step0 (K : PySem.W.Frag) : Sp := fun vs H Q _ => ∃ (g : V) (o : Option (Str × V)) (t : T) (v : V), vs = [g, v] ∧ Gr K H o g ∧ Tm H t v ∧ St o t ∧ Lf t ∧ ∀ H', Same H H' → Q .non H'
def sp_gone_way (K : PySem.W.Frag) : Sp := fun vs H Q _ => ∃ (g : V) (o : Option (Str × V)) (t : T) (v : V), vs = [g, v, .int 3000] ∧ Gr K H o g ∧ Tm H t v ∧ St o t ∧ ∀ p l H', Same H H' → H' p = some (.tup [v, .ref l]) → Q (.ref p) H'
def sp_work_out (K : PySem.W.Frag) : Sp := fun vs H Q _ => ∃ (g : V) (o : Option (Str × V)) (t : T) (v : V), vs = [g, v] ∧ Gr K H o g ∧ Tm H t v ∧ St o t ∧ ∀ H', Same H H' → Q v H'
end
section
variable {P : Program} {w : World} {K : PySem.W.Frag} {mg : Str → Option Value} {base : Heap}
section
variable {σ : L2.St} {H : Hp} {Q : VK} {E : XK}
theorem q_is_term {d : Nat} {t : T} {v : V} (h : Tm H t v) (o : t.ok) (hd : t.depth < d) (k : ∀ H', Same H H' → Q (.bl true) H') : sp_is_term d ([v] ++ []) H Q E := ⟨t, v, rfl, h, o, hd, k⟩
theorem q_is_name {n : Str} (h : NameOk n) (k : ∀ H', Same H H' → Q (.bl true) H') : sp_is_name ([.str n] ++ []) H Q E := ⟨n, rfl, h, k⟩
theorem q_need_term {t : T} {v : V} (h : Tm H t v) (o : t.ok) (hd : t.depth < 2) (k : ∀ H', Same H H' → Q .non H') : sp_need_term ([v] ++ []) H Q E := ⟨t, v, rfl, h, o, hd, k⟩
theorem q_inner0 {t : T} {v : V} (h : Tm H t v) (l : Lf t) (k : ∀ L H', Same H H' → H' L = some (.lst []) → Q (.ref L) H') : sp_inner ([v] ++ []) H Q E := ⟨t, v, rfl, h, .inl ⟨l, k⟩⟩
theorem q_row {n : Str} {v : V} (h : RowOk K H n v) (k : ∀ H', Same H H' → Q (.bl true) H') : sp_row K ([v] ++ []) H Q E := ⟨n, v, rfl, h, k⟩
theorem r_sm2 {H : Hp} {o : HO} {R : Addr → Hp → Prop} (h : ∀ L H', Same H H' → H' L = some o → R L H') : ∀ L H', Same H H' → H' L = some o → R L H' := h
theorem q_need_rows {l : Addr} {o : Option (Str × V)} (h : H l = some (.lst (gRows o))) (r : ∀ r, o = some r → RowOk K H r.1 r.2) (k : ∀ H', Same H H' → Q .non H') : sp_need_rows K ([.ref l] ++ []) H Q E := ⟨l, o, rfl, h, r, k⟩
theorem q_has0 {g : V} {n : Str} (h : Gr K H none g) (k : Q (.bl false) H) : sp_Ground_has K (g :: ([.str n] ++ [])) H Q E := ⟨g, n, none, rfl, h, .inl ⟨rfl, k⟩⟩
theorem q_has1 {g r : V} {n : Str} (h : Gr K H (some (n, r)) g) (k : Q (.bl true) H) : sp_Ground_has K (g :: ([.str n] ++ [])) H Q E := ⟨g, n, some (n, r), rfl, h, .inr ⟨r, rfl, k⟩⟩
theorem q_told {g r : V} {n : Str} (h : Gr K H (some (n, r)) g) (k : Q r H) : sp_Ground_told K (g :: ([.str n] ++ [])) H Q E := ⟨g, n, r, rfl, h, k⟩
theorem q_row_of {g r : V} {n : Str} (h : Gr K H (some (n, r)) g) (k : ∀ H', Same H H' → Q .non H') : sp_row_of K ([g, .str n, .str "mean"] ++ []) H Q E := ⟨g, n, r, rfl, h, k⟩
theorem q_gone {g v : V} {o : Option (Str × V)} {t : T} (h : Gr K H o g) (ht : Tm H t v) (s : St o t) (k : ∀ H', Same H H' → Q .non H') : sp_gone K ([g, v] ++ []) H Q E := ⟨g, o, t, v, rfl, h, ht, s, k⟩
theorem q_first0 {g v : V} {o : Option (Str × V)} {t : T} (h : Gr K H o g) (ht : Tm H t v) (s : St o t) (l : Lf t) (k : ∀ H', Same H H' → Q .non H') : sp_first_step0 K ([g, v] ++ []) H Q E := ⟨g, o, t, v, rfl, h, ht, s, l, k⟩
theorem q_first {g v : V} {o : Option (Str × V)} {t : T} (h : Gr K H o g) (ht : Tm H t v) (s : St o t) (k : ∀ H', Same H H' → Q .non H') : sp_gone K ([g, v] ++ []) H Q E := ⟨g, o, t, v, rfl, h, ht, s, k⟩
theorem q_gone_way {g v : V} {o : Option (Str × V)} {t : T} (h : Gr K H o g) (ht : Tm H t v) (s : St o t) (k : ∀ p l H', Same H H' → H' p = some (.tup [v, .ref l]) → Q (.ref p) H') : sp_gone_way K ([g, v, .int 3000] ++ []) H Q E := ⟨g, o, t, v, rfl, h, ht, s, k⟩
theorem q_work_out {g v : V} {o : Option (Str × V)} {t : T} (h : Gr K H o g) (ht : Tm H t v) (s : St o t) (k : ∀ H', Same H H' → Q v H') : sp_work_out K ([g, v] ++ []) H Q E := ⟨g, o, t, v, rfl, h, ht, s, k⟩
theorem q_raise_in {t : T} {v : V} {i j : Int} (h : Tm H t v) (l : Lf t) (n : ∀ k, t ≠ .at_ k) (k : ∀ H', Same H H' → Q v H') : sp_raise_in ([v, .int i, .int j] ++ []) H Q E := ⟨t, v, i, j, rfl, h, l, n, k⟩
theorem r_meth {C : Addr} {te : TE} {ta : TA} {m : Str} {sp : Sp} {dvs : List V} (h : te σ H fun x H1 => ∃ a dx fs, x = .ref a ∧ H1 a = some (.ins C dx fs) ∧ fs.lookup m = none ∧ ta σ H1 fun vs H2 => sp (x :: (vs ++ dvs)) H2 Q E) : tMeth C m sp dvs E te ta σ H Q := h
theorem r_fld {te : TE} {f : Str} (h : te σ H fun x H1 => ∃ a C dx fs v, x = .ref a ∧ H1 a = some (.ins C dx fs) ∧ Cls K C ∧ NoAttr K C f ∧ fs.lookup f = some v ∧ Q v H1) : tFld K te f σ H Q := h
theorem r_asGr {m : Str} {o : Option (Str × V)} {v : V} {R : Prop} (h : Gr K H o v) (h1 : (m == "kept_rows") = false) (h2 : (m == "kept_by") = false) (k : R) : ∃ a dx fs, v = .ref a ∧ H a = some (.ins (He.ga K "Ground") dx fs) ∧ fs.lookup m = none ∧ R := by
  obtain ⟨g, dx, l, d, e, a, _⟩ := h
  exact ⟨g, dx, _, e, a, by simp only [List.lookup_cons, h1, h2, List.lookup_nil], k⟩
theorem r_inm {a C dx : Addr} {fs : List (Str × V)} {m : Str} {R : Prop} (h : H a = some (.ins C dx fs)) (n : fs.lookup m = none) (k : R) : ∃ a' dx' fs', V.ref a = .ref a' ∧ H a' = some (.ins C dx' fs') ∧ fs'.lookup m = none ∧ R := ⟨a, dx, fs, rfl, h, n, k⟩
theorem r_ifd {a C dx : Addr} {fs : List (Str × V)} {f : Str} {v : V} {R : V → Prop} (c : Cls K C) (n : NoAttr K C f) (h : H a = some (.ins C dx fs)) (l : fs.lookup f = some v) (k : R v) : ∃ a' C' dx' fs' v', V.ref a = .ref a' ∧ H a' = some (.ins C' dx' fs') ∧ Cls K C' ∧ NoAttr K C' f ∧ fs'.lookup f = some v' ∧ R v' := ⟨a, C, dx, fs, v, rfl, h, c, n, l, k⟩
theorem r_eqDv {x y : V} {d e : PyData} (hd : Dp K H x d) (he : Dp K H y e) (sd : SeqAt.shaped d = true) (se : SeqAt.shaped e = true) (k : Q (.bl (PyData.eqv d e)) H) : rEqD K x y H Q := ⟨d, e, hd, he, sd, se, k⟩
theorem r_neDv {x y : V} {d e : PyData} (hd : Dp K H x d) (he : Dp K H y e) (sd : SeqAt.shaped d = true) (se : SeqAt.shaped e = true) (k : Q (.bl (!PyData.eqv d e)) H) : rNeD K x y H Q := ⟨d, e, hd, he, sd, se, k⟩
theorem r_callL {i : Nat} {f : Addr} {sp : Sp} {dvs : List V} {t : TA} (hs : σ[i]? = some (some (.ref f))) (h : t σ H fun vs H1 => sp (vs ++ dvs) H1 Q E) : tCallL i f sp dvs E t σ H Q := ⟨hs, h⟩
/-- a while whose test fails at once -/
theorem r_while0 {c : TT} {tb : TS} {D : Ends} (h : c σ H fun b H1 => if b = true then ∃ N : L2.St → Hp → Prop, (∀ σ' H', N σ' H' → ∃ m', m' < 0 ∧ (fun (m : Nat) (σ2 : L2.St) (H2 : Hp) => m = 0 ∧ σ2 = σ ∧ H2 = H) m' σ' H') ∧ tb { D with nx := N, ct := N, bk := D.nx } σ H1 else D.nx σ H1) : tWhile c tb D σ H := by
  refine ⟨fun m σ2 H2 => m = 0 ∧ σ2 = σ ∧ H2 = H, ⟨0, rfl, rfl, rfl⟩, ?_⟩
  rintro m σ2 H2 ⟨rfl, rfl, rfl⟩
  exact h
end
/-! ### terms as data -/
def T.dat : T → PyData
  | .at_ k => .tuple [.str "at", .int k]
  | .kind k => .tuple [.str "kind", .int k]
  | .all a b => .tuple [.str "all", a.dat, b.dat]
  | .fn a b => .tuple [.str "fun", a.dat, b.dat]
  | .app a b => .tuple [.str "app", a.dat, b.dat]
  | .name n => .tuple [.str "name", .str n]
  | .thing n => .tuple [.str "thing", .str n]
  | .maker n k => .tuple [.str "maker", .str n, .int k]
  | .eater n k => .tuple [.str "eater", .str n, .int k]
  | .same a b c => .tuple [.str "same", a.dat, b.dat, c.dat]
  | .self a b => .tuple [.str "self", a.dat, b.dat]
  | .put a b c => .tuple [.str "put", a.dat, b.dat, c.dat]
theorem Tm.dp {H : Hp} : ∀ {t : T} {v : V}, Tm H t v → Dp K H v t.dat
  | .at_ _, _, ⟨p, e, q⟩ => by subst e; exact .tup (SqT.of q) (.cons (.str _) (.cons (.int _) .nil))
  | .kind _, _, ⟨p, e, q⟩ => by subst e; exact .tup (SqT.of q) (.cons (.str _) (.cons (.int _) .nil))
  | .all _ _, _, ⟨p, x, y, e, q, a, b⟩ => by subst e; exact .tup (SqT.of q) (.cons (.str _) (.cons a.dp (.cons b.dp .nil)))
  | .fn _ _, _, ⟨p, x, y, e, q, a, b⟩ => by subst e; exact .tup (SqT.of q) (.cons (.str _) (.cons a.dp (.cons b.dp .nil)))
  | .app _ _, _, ⟨p, x, y, e, q, a, b⟩ => by subst e; exact .tup (SqT.of q) (.cons (.str _) (.cons a.dp (.cons b.dp .nil)))
  | .name _, _, ⟨p, e, q⟩ => by subst e; exact .tup (SqT.of q) (.cons (.str _) (.cons (.str _) .nil))
  | .thing _, _, ⟨p, e, q⟩ => by subst e; exact .tup (SqT.of q) (.cons (.str _) (.cons (.str _) .nil))
  | .maker _ _, _, ⟨p, e, q⟩ => by subst e; exact .tup (SqT.of q) (.cons (.str _) (.cons (.str _) (.cons (.int _) .nil)))
  | .eater _ _, _, ⟨p, e, q⟩ => by subst e; exact .tup (SqT.of q) (.cons (.str _) (.cons (.str _) (.cons (.int _) .nil)))
  | .same _ _ _, _, ⟨p, x, y, z, e, q, a, b, c⟩ => by subst e; exact .tup (SqT.of q) (.cons (.str _) (.cons a.dp (.cons b.dp (.cons c.dp .nil))))
  | .self _ _, _, ⟨p, x, y, e, q, a, b⟩ => by subst e; exact .tup (SqT.of q) (.cons (.str _) (.cons a.dp (.cons b.dp .nil)))
  | .put _ _ _, _, ⟨p, x, y, z, e, q, a, b, c⟩ => by subst e; exact .tup (SqT.of q) (.cons (.str _) (.cons a.dp (.cons b.dp (.cons c.dp .nil))))
/-! ### dicts -/
section
variable {σ : L2.St} {H : Hp} {Q : VK} {E : XK}
theorem r_din {ty td : TE} (h : ty σ H fun y H1 => td σ H1 fun x H2 => ∃ a o, x = .ref a ∧ DGet H2 a y o ∧ Q (.bl o.isSome) H2) : tDIn ty td σ H Q := h
theorem r_dnin {ty td : TE} (h : ty σ H fun y H1 => td σ H1 fun x H2 => ∃ a o, x = .ref a ∧ DGet H2 a y o ∧ Q (.bl (!o.isSome)) H2) : tDNotIn ty td σ H Q := h
theorem r_dget {ty td : TE} (h : td σ H fun x H1 => ty σ H1 fun y H2 => ∃ a v, x = .ref a ∧ DGet H2 a y (some v) ∧ Q v H2) : tDGet td ty σ H Q := h
theorem r_dput {ty td tv : TE} {D : Ends} (h : tv σ H fun v H1 => td σ H1 fun x H2 => ty σ H2 fun y H3 => ∃ a H4, x = .ref a ∧ DPut H3 a y v H4 ∧ D.nx σ H4) : sDPut td ty tv D σ H := h
theorem r_dnew (h : ∀ p, H p = none → Q (.ref p) (upd H p (.dK []))) : tDNewK σ H Q := h
theorem r_dinS {p : Addr} {z : Str} {kvs : List (Key × V)} {o : Option V} {R : Option V → Prop} (h : H p = some (.dK kvs)) (e : valV kvs (.inr z) = o) (k : R o) : ∃ a o, V.ref p = .ref a ∧ DGet H a (.str z) o ∧ R o := ⟨p, o, rfl, e ▸ DGet.k (k := .inr z) h, k⟩
theorem r_dinI {p : Addr} {z : Int} {kvs : List (Key × V)} {o : Option V} {R : Option V → Prop} (h : H p = some (.dK kvs)) (e : valV kvs (.inl z) = o) (k : R o) : ∃ a o, V.ref p = .ref a ∧ DGet H a (.int z) o ∧ R o := ⟨p, o, rfl, e ▸ DGet.k (k := .inl z) h, k⟩
theorem r_dgetS {p : Addr} {z : Str} {kvs : List (Key × V)} {v : V} {R : V → Prop} (h : H p = some (.dK kvs)) (e : valV kvs (.inr z) = some v) (k : R v) : ∃ a v, V.ref p = .ref a ∧ DGet H a (.str z) (some v) ∧ R v := ⟨p, v, rfl, e ▸ DGet.k (k := .inr z) h, k⟩
theorem r_dgetI {p : Addr} {z : Int} {kvs : List (Key × V)} {v : V} {R : V → Prop} (h : H p = some (.dK kvs)) (e : valV kvs (.inl z) = some v) (k : R v) : ∃ a v, V.ref p = .ref a ∧ DGet H a (.int z) (some v) ∧ R v := ⟨p, v, rfl, e ▸ DGet.k (k := .inl z) h, k⟩
theorem isSN {R : Bool → Prop} (h : R false) : R (none : Option V).isSome := h
theorem isSS {v : V} {R : Bool → Prop} (h : R true) : R (some v).isSome := h
theorem r_dputS {p : Addr} {z : Str} {v : V} {kvs : List (Key × V)} {R : Hp → Prop} (h : H p = some (.dK kvs)) (hl : kvs.length ≤ 1000) (k : R (upd H p (.dK (putK kvs (.inr z) v)))) : ∃ a H4, V.ref p = .ref a ∧ DPut H a (.str z) v H4 ∧ R H4 := ⟨p, _, rfl, DPut.k (k := .inr z) h (small1000 hl), k⟩
theorem r_dputI {p : Addr} {z : Int} {v : V} {kvs : List (Key × V)} {R : Hp → Prop} (h : H p = some (.dK kvs)) (hl : kvs.length ≤ 1000) (k : R (upd H p (.dK (putK kvs (.inl z) v)))) : ∃ a H4, V.ref p = .ref a ∧ DPut H a (.int z) v H4 ∧ R H4 := ⟨p, _, rfl, DPut.k (k := .inl z) h (small1000 hl), k⟩
/-! ### isinstance with a tuple of built-in classes -/
theorem r_isiT {x : V} {tp : Addr} {cs : List V} {t : Value} {us : List Value} {b : Bool} (hT : H tp = some (.tup cs)) (c : Paired ClsV cs us) (ty : TyX K H x t) (e : PySem.W.kitAny K t us = some b) (k : Q (.bl b) H) : rIsiT K [x, .ref tp] H Q := ⟨x, tp, cs, t, us, b, rfl, hT, c, ty, e, k⟩
theorem kit_tys2 {t a b : String} (h : kitB t a = some true ∨ (kitB t a = some false ∧ kitB t b = some true)) : PySem.W.kitAny K (.type t) [.type a, .type b] = some true := by
  unfold PySem.W.kitAny
  rcases h with h | ⟨h1, h2⟩
  · rw [kit_ty h]
  · rw [kit_ty h1]
    show PySem.W.kitAny K (.type t) [.type b] = some true
    unfold PySem.W.kitAny
    rw [kit_ty h2]
theorem r_isiLT {l tp : Addr} {ys : List V} (h : H l = some (.lst ys)) (hT : H tp = some (.tup [.ty "list", .ty "tuple"])) (k : Q (.bl true) H) : rIsiT K [.ref l, .ref tp] H Q :=
  r_isiT hT (.cons (.ty _) (.cons (.ty _) .nil)) (.base (.lst h)) (kit_tys2 (.inl (by decide +kernel))) k
theorem r_isiLT' {l tp : Addr} {ys : List V} (h : H l = some (.tup ys)) (hT : H tp = some (.tup [.ty "list", .ty "tuple"])) (k : Q (.bl true) H) : rIsiT K [.ref l, .ref tp] H Q :=
  r_isiT hT (.cons (.ty _) (.cons (.ty _) .nil)) (.base (.tup h)) (kit_tys2 (.inr ⟨by decide +kernel, by decide +kernel⟩)) k
theorem rows_le (o : Option (Str × V)) : (gRows o).length ≤ 1 := by
  cases o with
  | none => exact Nat.zero_le 1
  | some _ => exact Nat.le_refl 1
theorem same_putnew {H H' : Hp} {p : Addr} {u : HO} (s : Same H H') (n : H p = none) : Same H (upd H' p u) := fun b q e => by
  rw [upd_ne (ne_of_none e n)]
  exact s _ _ e
theorem itl_eq {a : Addr} {xs : List V} {i : Nat} {x : V} {H H' : Hp} (h : (Itl K a).yld i H x H') (hl : SqL K H a xs) : H' = H ∧ xs[i]? = some x := ⟨h.1, h.2 xs hl⟩
end
section
variable {σ : L2.St} {H : Hp} {Q : VK} {E : XK}
theorem But.trans {l : Addr} {H H1 H2 : Hp} (a : But l H H1) (b : But l H1 H2) : But l H H2 := fun c o n e => b c o n (a c o n e)
theorem But.of {l : Addr} {H H1 : Hp} (s : Same H H1) : But l H H1 := fun c o _ e => s c o e
theorem r_sfld {ta tv : TE} {f : Str} {D : Ends} (h : tv σ H fun y H1 => ta σ H1 fun x H2 => ∃ a C dx fs, x = .ref a ∧ H2 a = some (.ins C dx fs) ∧ Cls K C ∧ NoAttr K C f ∧ fs.length < 1000 ∧ D.nx σ (upd H2 a (.ins C dx (putF f y fs)))) : sFld K ta tv f D σ H := h
theorem r_ifs {a C dx : Addr} {fs : List (Str × V)} {f : Str} {R : Addr → Addr → Addr → List (Str × V) → Prop} (h : H a = some (.ins C dx fs)) (c : Cls K C) (n : NoAttr K C f) (l : fs.length < 1000) (k : R a C dx fs) :
    ∃ a' C' dx' fs', V.ref a = .ref a' ∧ H a' = some (.ins C' dx' fs') ∧ Cls K C' ∧ NoAttr K C' f ∧ fs'.length < 1000 ∧ R a' C' dx' fs' := ⟨a, C, dx, fs, rfl, h, c, n, l, k⟩
def rDictP (K : PySem.W.Frag) : List V → Hp → VK → Prop := fun xs H Q => ∃ (a : Addr) (ps : List Addr) (kvs : List (Key × V)), xs = [.ref a] ∧ SqL K H a (ps.map V.ref) ∧ Paired (fun p kv => SqT K H p [kV kv.1, kv.2]) ps kvs ∧ ∀ p, H p = none → Q (.ref p) (upd H p (.dK (mergeK [] kvs)))
theorem call_dictPn {X : Cx} (hc : X.calm = true) : CallR X (.type "dict") (rDictP X.K) := call_dictP hc
theorem r_dictP0 {a : Addr} (h : H a = some (.lst [])) (k : ∀ p, H p = none → Q (.ref p) (upd H p (.dK []))) : rDictP K [.ref a] H Q := ⟨a, [], [], rfl, SqL.of h, .nil, k⟩
theorem r_dictP1 {a p : Addr} {n : Str} {v : V} (h : H a = some (.lst [.ref p])) (hp : H p = some (.tup [.str n, v])) (k : ∀ p, H p = none → Q (.ref p) (upd H p (.dK [(.inr n, v)]))) : rDictP K [.ref a] H Q := ⟨a, [p], [(.inr n, v)], rfl, SqL.of h, .cons (SqT.of hp) .nil, k⟩
def rIsC (C : Addr) : List V → Hp → VK → Prop := fun xs H Q => ∃ a dx fs, xs = [.ref a, .ref C] ∧ H a = some (.ins C dx fs) ∧ Q (.bl true) H
theorem call_isCn {X : Cx} {C : Addr} (c : C8.InsC X.K C) : CallR X (.builtin "isinstance") (rIsC C) := C8.call_isC c
theorem r_isC {a C dx : Addr} {fs : List (Str × V)} (h : H a = some (.ins C dx fs)) (k : Q (.bl true) H) : rIsC C [.ref a, .ref C] H Q := ⟨a, dx, fs, rfl, h, k⟩
theorem r_isGr {o : Option (Str × V)} {v : V} (h : Gr K H o v) (k : Q (.bl true) H) : rIsC (He.ga K "Ground") [v, .ref (He.ga K "Ground")] H Q := by
  obtain ⟨g, dx, l, d, rfl, a, _⟩ := h
  exact r_isC a k
theorem r_catL {l b : Addr} {xs zs : List V} (h1 : H l = some (.lst xs)) (h2 : H b = some (.lst zs)) (hl : xs.length + zs.length ≤ 1000) (k : ∀ p, H p = none → Q (.ref p) (upd H p (.lst (xs ++ zs)))) : rCat (.ref l) (.ref b) H Q := ⟨l, b, xs, zs, rfl, rfl, h1, h2, small_le hl, k⟩
theorem insC (B : Bk w K mg) {x : Str} {C : Addr} (hC : C = He.ga K x) (c : Cls K C) (h : insB K x = true) (hd : desB K = true) : C8.InsC K C := by
  subst hC
  have h1 := He.ba h
  have h2 := He.ba h1.2
  have h3 := He.ba hd
  exact ⟨c, beq_iff_eq.mp h1.1, beq_iff_eq.mp h3.1, beq_iff_eq.mp h3.2, beq_iff_eq.mp h2.1, beq_iff_eq.mp h2.2⟩
theorem exO_at (B : Bk w K mg) : exO K = true := by
  obtain ⟨_, _, _, c⟩ := B.ex
  have e : ex K = true := c.more
  exact (He.ba e).1
theorem isC_Ground (B : Bk w K mg) : C8.InsC K (He.ga K "Ground") := insC B rfl (c_Ground B) (He.ba (He.ba (exO_at B)).2).1 (He.ba (exO_at B)).1
theorem isC_Work (B : Bk w K mg) : C8.InsC K (He.ga K "Work") := insC B rfl (c_Work B) (He.ba (He.ba (He.ba (exO_at B)).2).2).1 (He.ba (exO_at B)).1
end
theorem for0 {σ : L2.St} {H : Hp} {D : Ends} {J : It} {g : TG} {tb : TS} (hs : J.stop 0 H) (k : D.nx σ H) : ForGo g tb D σ J H := by
  refine ⟨fun i m σ' H' => i = 0 ∧ σ' = σ ∧ H' = H, ⟨0, rfl, rfl, rfl⟩, ?_⟩
  rintro i m σ' H' ⟨rfl, rfl, rfl⟩
  exact .inl ⟨hs, k⟩
end
end
end Kx
namespace Kx
open PySem PySem.Spec PyProof.Rows L2
section
local macro_rules | `(tactic| walk_at "hp") => `(tactic| first
  | assumption
  | exact upd_same
  | (refine' same_new (by assumption) _ _ ?_; walk_at "hp")
  | ((with_reducible apply SqT.of); walk_at "hp") | ((with_reducible apply SqL.of); walk_at "hp")
  | (refine' (show Same _ _ by assumption) _ _ ?_; walk_at "hp")
  | (refine' same_seqT (same_new (by assumption)) ?_; walk_at "hp")
  | (refine' Same.seq (same_new (by assumption)) ?_; walk_at "hp")
  | (refine' same_seqT (show Same _ _ by assumption) ?_; walk_at "hp")
  | (refine' Same.seq (show Same _ _ by assumption) ?_; walk_at "hp"))
local macro_rules | `(tactic| walk_at "sm") => `(tactic| first
  | assumption | exact Same.refl _
  | (refine' Same.trans ?_ (same_new (by assumption)); walk_at "sm")
  | (refine' Same.trans ?_ (show Same _ _ by assumption); walk_at "sm"))
local macro_rules | `(tactic| walk_at "ar") => `(tactic| first | assumption | omega | (simp only [List.length_cons, List.length_nil, List.length_append]; omega))
local macro_rules | `(tactic| walk_at "dt") => `(tactic| first | assumption | exact decide_eq_true (by walk_at "ar") | exact r_nd (decide_eq_false (by walk_at "ar")) | decide +kernel | rfl)
local macro_rules | `(tactic| walk_at "df") => `(tactic| first | assumption | exact decide_eq_false (by walk_at "ar") | exact r_nt (decide_eq_true (by walk_at "ar")) | decide +kernel | rfl)
local macro_rules | `(tactic| walk_at "rd1") => `(tactic| first
  | with_reducible refine iteT ?_
  | with_reducible refine iteF ?_
  | with_reducible refine iteNT ?_
  | with_reducible refine iteNF ?_
  | with_reducible refine r_seq ?_
  | with_reducible refine r_ret ?_
  | with_reducible refine r_retN ?_
  | with_reducible refine r_set ?_
  | with_reducible refine r_ifS ?_
  | with_reducible refine r_drop ?_
  | with_reducible refine r_next ?_
  | with_reducible refine r_c ?_
  | with_reducible refine r_cb ?_
  | with_reducible refine r_op ?_
  | with_reducible refine r_nil ?_
  | with_reducible refine r_cons ?_
  | with_reducible refine r_call ?_
  | with_reducible refine r_and ?_
  | with_reducible refine r_or ?_
  | with_reducible refine r_not ?_
  | with_reducible refine r_if ?_
  | with_reducible refine r_tb ?_
  | with_reducible refine r_test ?_
  | with_reducible refine r_tnot ?_
  | with_reducible refine r_tand ?_
  | with_reducible refine r_tor ?_
  | with_reducible refine r_bl ?_
  | with_reducible refine r_chain ?_
  | with_reducible refine r_i0 ?_
  | with_reducible refine r_eqI ?_
  | with_reducible refine r_eqS ?_
  | with_reducible refine r_neI ?_
  | with_reducible refine r_neS ?_
  | with_reducible refine r_neB ?_
  | with_reducible refine r_isi_int ?_
  | with_reducible refine r_isi_int_bool ?_
  | with_reducible refine r_isi_str ?_
  | with_reducible refine r_tup ?_
  | with_reducible refine r_lst ?_
  | ((with_reducible refine' r_var ?h1 ?_); (case h1 => rfl))
  | ((with_reducible refine' iteOf ?h1 ?_); (case h1 => walk_at "dt"))
  | ((with_reducible refine' iteOff ?h1 ?_); (case h1 => walk_at "df"))
  | ((with_reducible refine' r_lenS ?h1 ?_); (case h1 => first | assumption | exact small_le (by walk_at "ar")))
  | ((with_reducible refine' r_inT ?h1 ?h2 ?h3 ?_); (case h1 => walk_at "hp"); (case h2 => rfl); (case h3 => rfl))
  | ((with_reducible refine' r_notInD ?h1 ?h2 ?_); (case h1 => assumption); (case h2 => assumption))
  | ((with_reducible refine' r_ixD ?h1 ?h2 ?h3 ?_); (case h1 => assumption); (case h2 => assumption); (case h3 => assumption))
  | with_reducible refine r_sl ?_ | with_reducible refine r_part ?_ | with_reducible refine r_nopart ?_
  | ((with_reducible refine' r_slT1 ?h1 ?_); (case h1 => walk_at "hp")) | ((with_reducible refine' r_gTup2 ?h1 ?_); (case h1 => walk_at "hp"))
  | with_reducible refine r_al (fun _ _ => ?_) | ((with_reducible refine r_le ?h1 ?_); (case h1 => walk_at "ar"))
  | with_reducible refine r_max ?_ | with_reducible refine r_inS ?_ | with_reducible refine r_isNN ?_ | with_reducible refine r_isNR ?_ | with_reducible refine r_notNN ?_ | with_reducible refine r_notNR ?_
  | ((with_reducible refine' r_listL ?h1 ?_); (case h1 => walk_at "hp")) | ((with_reducible refine' r_listT ?h1 ?_); (case h1 => walk_at "hp"))
  | ((with_reducible refine' r_tupL ?h1 ?_); (case h1 => walk_at "hp")) | ((with_reducible refine' r_tupT ?h1 ?_); (case h1 => walk_at "hp"))
  | with_reducible refine r_lc ?_ | with_reducible refine r_iStr ?_ | with_reducible refine r_for ?_ | with_reducible refine r_iList ?_ | with_reducible refine r_iTup ?_ | with_reducible refine r_iEnum ?_ | with_reducible refine r_iZipS ?_ | with_reducible refine r_gName ?_
  | with_reducible refine ⟨_, rfl, ?_⟩
  | ((with_reducible refine' r_isi_tup ?h1 ?_); (case h1 => walk_at "hp"))
  | ((with_reducible refine' r_lenT ?h1 ?_); (case h1 => walk_at "hp")) | ((with_reducible refine' r_lenL ?h1 ?_); (case h1 => walk_at "hp"))
  | ((with_reducible refine' r_ixT0 ?h1 ?h2 ?_); (case h1 => walk_at "hp"); (case h2 => rfl))
  | ((with_reducible refine' r_ixL0 ?h1 ?h2 ?_); (case h1 => walk_at "hp"); (case h2 => rfl))
  | ((with_reducible refine' r_ixT1 ?h1 ?h2 ?_); (case h1 => walk_at "hp"); (case h2 => rfl))
  | ((with_reducible refine' r_ixL1 ?h1 ?h2 ?_); (case h1 => walk_at "hp"); (case h2 => rfl))
  | ((with_reducible refine' r_ixT2 ?h1 ?h2 ?_); (case h1 => walk_at "hp"); (case h2 => rfl))
  | ((with_reducible refine' r_ixL2 ?h1 ?h2 ?_); (case h1 => walk_at "hp"); (case h2 => rfl))
  | ((with_reducible refine' r_ixT3 ?h1 ?h2 ?_); (case h1 => walk_at "hp"); (case h2 => rfl))
  | ((with_reducible refine' r_ixL3 ?h1 ?h2 ?_); (case h1 => walk_at "hp"); (case h2 => rfl)))
local macro_rules | `(tactic| walk_at "rd") => `(tactic| repeat walk_at "rd1")
local macro_rules | `(tactic| walk_at "tm") => `(tactic| first
  | assumption
  | ((with_reducible refine' Tm.same ?s1 ?s2); (case s2 => assumption); (case s1 => walk_at "sm"))
  | ((with_reducible refine' Gr.same ?s1 ?s2); (case s2 => assumption); (case s1 => walk_at "sm"))
  | ((with_reducible refine' RowOk.same ?s1 ?s2); (case s2 => assumption); (case s1 => walk_at "sm")))
local macro_rules | `(tactic| walk_at "rd1") => `(tactic| first
  | with_reducible refine r_sm (fun _ _ => ?_)
  | with_reducible refine r_sm2 (fun _ _ _ _ => ?_)
  | with_reducible refine r_meth ?_
  | with_reducible refine r_fld ?_
  | with_reducible refine r_while0 ?_
  | ((with_reducible refine' r_callL ?h1 ?_); (case h1 => rfl))
  | ((with_reducible refine' q_is_term ?h1 ?h2 ?h3 ?_); (case h1 => walk_at "tm"); (case h2 => first | assumption | trivial); (case h3 => first | assumption | decide))
  | ((with_reducible refine' q_need_term ?h1 ?h2 ?h3 ?_); (case h1 => walk_at "tm"); (case h2 => first | assumption | trivial); (case h3 => first | assumption | decide))
  | ((with_reducible refine' q_is_name ?h1 ?_); (case h1 => assumption))
  | ((with_reducible refine' q_row ?h1 ?_); (case h1 => walk_at "tm"))
  | ((with_reducible refine' q_has0 ?h1 ?_); (case h1 => walk_at "tm"))
  | ((with_reducible refine' q_has1 ?h1 ?_); (case h1 => walk_at "tm"))
  | ((with_reducible refine' q_told ?h1 ?_); (case h1 => walk_at "tm"))
  | ((with_reducible refine' q_row_of ?h1 ?_); (case h1 => walk_at "tm"))
  | ((with_reducible refine' r_asGr ?h1 ?h2 ?h3 ?_); (case h1 => walk_at "tm"); (case h2 => decide); (case h3 => decide))
  | ((with_reducible refine' r_inm ?h1 ?h2 ?_); (case h1 => walk_at "hp"); (case h2 => rfl))
  | ((with_reducible refine' r_ifd ?h1 ?h2 ?h3 ?h4 ?_); (case h3 => walk_at "hp"); (case h4 => rfl); (case h1 => assumption); (case h2 => assumption)))
local macro_rules | `(tactic| walk_at "dp") => `(tactic| first
  | assumption
  | exact Dp.non | exact Dp.bl _ | exact Dp.int _ | exact Dp.str _ | exact DpAll.nil
  | ((with_reducible refine' DpAll.cons ?s1 ?s2); (case s1 => walk_at "dp"); (case s2 => walk_at "dp"))
  | ((with_reducible refine' Tm.dp ?s1); (case s1 => walk_at "tm"))
  | ((with_reducible refine' Dp.lst ?s1 ?s2); (case s1 => walk_at "hp"); (case s2 => walk_at "dp"))
  | ((with_reducible refine' Dp.tup ?s1 ?s2); (case s1 => walk_at "hp"); (case s2 => walk_at "dp")))
local macro_rules | `(tactic| walk_at "rd1") => `(tactic| first
  | ((with_reducible refine' r_eqDv ?h1 ?h2 ?h3 ?h4 ?_); (case h1 => walk_at "dp"); (case h2 => walk_at "dp"); (case h3 => first | assumption | rfl); (case h4 => first | assumption | rfl))
  | ((with_reducible refine' r_neDv ?h1 ?h2 ?h3 ?h4 ?_); (case h1 => walk_at "dp"); (case h2 => walk_at "dp"); (case h3 => first | assumption | rfl); (case h4 => first | assumption | rfl)))
local macro_rules | `(tactic| walk_at "vv") => `(tactic| first | assumption | exact valV_nil | exact valV_pos rfl | ((refine' (valV_neg ?n1).trans ?n2); (case n1 => first | decide | simp); (case n2 => walk_at "vv")))
local macro_rules | `(tactic| walk_at "rd1") => `(tactic| first
  | with_reducible refine r_din ?_ | with_reducible refine r_dnin ?_ | with_reducible refine r_dget ?_ | with_reducible refine r_dput ?_ | with_reducible refine r_dnew ?_
  | ((with_reducible refine' r_dinS ?h1 ?h2 ?_); (case h1 => walk_at "hp"); (case h2 => walk_at "vv"))
  | ((with_reducible refine' r_dinI ?h1 ?h2 ?_); (case h1 => walk_at "hp"); (case h2 => walk_at "vv"))
  | ((with_reducible refine' r_dgetS ?h1 ?h2 ?_); (case h1 => walk_at "hp"); (case h2 => walk_at "vv"))
  | ((with_reducible refine' r_dgetI ?h1 ?h2 ?_); (case h1 => walk_at "hp"); (case h2 => walk_at "vv"))
  | ((with_reducible refine' r_dputS ?h1 ?h2 ?_); (case h1 => walk_at "hp"); (case h2 => walk_at "ar"))
  | ((with_reducible refine' r_dputI ?h1 ?h2 ?_); (case h1 => walk_at "hp"); (case h2 => walk_at "ar"))
  | ((with_reducible refine' r_isiLT ?h1 ?h2 ?_); (case h1 => walk_at "hp"); (case h2 => walk_at "hp"))
  | ((with_reducible refine' r_isiLT' ?h1 ?h2 ?_); (case h1 => walk_at "hp"); (case h2 => walk_at "hp")))
local macro_rules | `(tactic| walk_at "rd1") => `(tactic| first
  | with_reducible refine r_sfld ?_
  | ((with_reducible refine' r_ifs ?h1 ?h2 ?h3 ?h4 ?_); (case h1 => walk_at "hp"); (case h2 => assumption); (case h3 => assumption); (case h4 => walk_at "ar"))
  | ((with_reducible refine' r_isGr ?h1 ?_); (case h1 => walk_at "tm"))
  | ((with_reducible refine' r_catL ?h1 ?h2 ?h3 ?_); (case h1 => walk_at "hp"); (case h2 => walk_at "hp"); (case h3 => walk_at "ar")))
section
variable {P : Program} {w : World} {K : PySem.W.Frag} {mg : Str → Option Value} {base : Heap}
theorem sc_need_term : FnScope ["thing"] ["thing"] (defScope s_need_term) := ⟨rfl, rfl, rfl, by decide +kernel, rfl, by decide +kernel, by decide +kernel⟩
theorem ok_need_term (B : Bk w K mg) : C8.Cal P w K mg base 6 "need_term" sp_need_term [] := by
  obtain ⟨fd, F⟩ := D_need_term B
  refine calD F (g_need_term B) sc_need_term (fun _ _ _ _ _ _ us hl => match us, hl with | [_], _ => rfl) (fun vs H Q E h => ?_) (fun cdv A outer s H vs Q E hr h => ?_)
  · obtain ⟨t, x, rfl, _⟩ := h
    rfl
  · obtain ⟨t, v, rfl, ht, ho, hd, kq⟩ := h
    refine ⟨_, (pss_one (ps_if (pt_not (pt_val (C8.pe_c (ok_is_term B 2) hr (by decide) (by rfl) (pa_cons (pv 0) pa_nil)))) (pss_one ps_never) pss_nil)), ?_⟩
    walk_at "rd"
    exact kq _ (by walk_at "sm")
theorem sc_inner : FnScope ["term"] ["term"] (defScope s_inner) := ⟨rfl, rfl, rfl, by decide +kernel, rfl, by decide +kernel, by decide +kernel⟩
theorem ok_inner (B : Bk w K mg) : C8.Cal P w K mg base 1 "inner" sp_inner [] := by
  obtain ⟨fd, F⟩ := D_inner B
  refine calD F (g_inner B) sc_inner (fun _ _ _ _ _ _ us hl => match us, hl with | [_], _ => rfl) (fun vs H Q E h => ?_) (fun cdv A outer s H vs Q E hr h => ?_)
  · obtain ⟨t, x, rfl, _⟩ := h
    rfl
  · obtain ⟨t, v, rfl, ht, kq⟩ := h
    refine ⟨_, (pss_one (ps_ret (pe_ifExp (pt_cmpR op_inS pe_str (pe_ix ix_kdict (pe_glob (v := .ref (He.ga K "FORMS_terms")) (by rfl) (g_FORMS_terms B) rfl) (pe_ix ix_tup (pv 0) pe_int (fun _ _ => rfl)) (fun _ _ => rfl)) (by rfl)) (pe_callTy call_listOf (by rfl) (b_list B) (by decide +kernel) (pa_cons (pe_slice sl_tup (pv 0) (po_some pe_int) po_none) pa_nil)) (pe_lst pa_nil)))), ?_⟩
    have KD := FORMS_at B
    rcases kq with ⟨l, kq⟩ | ⟨a, b, p, x, y, rfl, rfl, hp, kq⟩
    · cases t with
      | at_ k =>
        obtain ⟨p, rfl, hp⟩ := ht
        obtain ⟨u, hn, hu⟩ := FORMS_val' B (x := "at") (f := "n") (List.mem_of_getElem? (i := 0) rfl)
        walk_at "rd"
        exact kq _ _ (by walk_at "sm") (by walk_at "hp")
      | kind k =>
        obtain ⟨p, rfl, hp⟩ := ht
        obtain ⟨u, hn, hu⟩ := FORMS_val' B (x := "kind") (f := "h") (List.mem_of_getElem? (i := 1) rfl)
        walk_at "rd"
        exact kq _ _ (by walk_at "sm") (by walk_at "hp")
      | name k =>
        obtain ⟨p, rfl, hp⟩ := ht
        obtain ⟨u, hn, hu⟩ := FORMS_val' B (x := "name") (f := "w") (List.mem_of_getElem? (i := 5) rfl)
        walk_at "rd"
        exact kq _ _ (by walk_at "sm") (by walk_at "hp")
      | _ => exact l.elim
    · obtain ⟨u, hn, hu⟩ := FORMS_val' B (x := "all") (f := "tt") (List.mem_of_getElem? (i := 2) rfl)
      walk_at "rd"
      exact kq _ _ (by walk_at "sm") (by walk_at "hp")
end
section
variable {P : Program} {w : World} {K : PySem.W.Frag} {mg : Str → Option Value} {base : Heap}
theorem sc_raise_in : FnScope ["term", "by", "start", "some", "part", "number"] ["term", "by", "start"] (defScope s_raise_in) := ⟨rfl, rfl, rfl, by decide +kernel, rfl, by decide +kernel, by decide +kernel⟩
theorem ok_raise_in (B : Bk w K mg) : C8.Cal P w K mg base 2 "raise_in" sp_raise_in [] := by
  obtain ⟨fd, F⟩ := D_raise_in B
  refine calD F (g_raise_in B) sc_raise_in (fun _ _ _ _ _ _ us hl => match us, hl with | [_, _, _], _ => rfl) (fun vs H Q E h => ?_) (fun cdv A outer s H vs Q E hr h => ?_)
  · obtain ⟨t, x, i, j, rfl, _⟩ := h
    rfl
  · obtain ⟨t, v, i, j, rfl, ht, l, na, kq⟩ := h
    refine ⟨_, (pss_cons (ps_if (pt_cmpR op_eq (pe_ix ix_tup (pv 0) pe_int (fun _ _ => rfl)) pe_str (nomark _)) (pss_one ps_never) pss_nil)
      (pss_cons (ps_set (i := 3) sc_raise_in.nd rfl (Or.inl rfl) (C8.pe_c (ok_inner B) hr (by decide) (by rfl) (pa_cons (pv 0) pa_nil)))
      (pss_cons (ps_if (pt_cmpR (op_eqD hr.units) (pv 3) (pe_lst pa_nil) (nomark _)) (pss_one (ps_ret (pv 0))) pss_nil)
      (pss_one ps_never)))), ?_⟩
    have go : ∀ {p : Addr} {x : Str} {a : V}, v = .ref p → H p = some (.tup [.str x, a]) → decide (x = "at") = false → Q v H → True := fun _ _ _ _ => trivial
    cases t with
    | at_ k => exact absurd rfl (na k)
    | kind k =>
      have ht' := ht
      obtain ⟨p, rfl, hp⟩ := ht
      walk_at "rd"
      refine q_inner0 ht' trivial ?_
      walk_at "rd"
      exact kq _ (by walk_at "sm")
    | name k =>
      have ht' := ht
      obtain ⟨p, rfl, hp⟩ := ht
      walk_at "rd"
      refine q_inner0 ht' trivial ?_
      walk_at "rd"
      exact kq _ (by walk_at "sm")
    | _ => exact l.elim
theorem sc_is_hold_row : FnScope ["thing"] ["thing"] (defScope s_is_hold_row) := ⟨rfl, rfl, rfl, by decide +kernel, rfl, by decide +kernel, by decide +kernel⟩
theorem ok_is_hold_row' (B : Bk w K mg) {fd : FuncData} (F : FunD K "is_hold_row" "is_hold_row" (defArgs s_is_hold_row) (defBody s_is_hold_row) (defScope s_is_hold_row) [] [] (He.ga K "is_hold_row") fd) : FnOk P w K mg base C8.CX0 6 (He.ga K "is_hold_row") fd ["thing"] (sp_row K) := by
  refine fokD F sc_is_hold_row (fun vs H Q E h => ?_) (fun cdv A outer s H vs Q E hr h => ?_)
  · obtain ⟨n, x, rfl, _⟩ := h
    rfl
  · obtain ⟨n, v, rfl, ⟨p, k, rfl, hp, hk, hn⟩, kq⟩ := h
    refine ⟨_, (pss_one (ps_ret (pe_and (pe_cmpR op_eq (pe_callB call_lenQ (by rfl) (b_len B) (by decide +kernel) (pa_cons (pv 0) pa_nil)) pe_int (nomark _)) (pe_and (C8.pe_c (ok_is_name B) hr (by decide) (by rfl) (pa_cons (pe_ix ix_tup (pv 0) pe_int (fun _ _ => rfl)) pa_nil)) (pe_one (C8.pe_c (ok_is_term B 2) hr (by decide) (by rfl) (pa_cons (pe_ix ix_tup (pv 0) pe_int (fun _ _ => rfl)) pa_nil))))))), ?_⟩
    walk_at "rd"
    refine q_is_term (hk.same (by walk_at "sm")) (Nat.zero_le 5) (by decide) ?_
    walk_at "rd"
    exact kq _ (by walk_at "sm")
theorem sc_is_row : FnScope ["thing", "look"] ["thing"] (defScope s_is_row) := ⟨rfl, rfl, rfl, by decide +kernel, rfl, by decide +kernel, by decide +kernel⟩
theorem ok_is_row (B : Bk w K mg) : C8.Cal P w K mg base 7 "is_row" (sp_row K) [] := by
  obtain ⟨fd, F⟩ := D_is_row B
  obtain ⟨fd2, F2⟩ := D_is_hold_row B
  refine calD F (g_is_row B) sc_is_row (fun _ _ _ _ _ _ us hl => match us, hl with | [_], _ => rfl) (fun vs H Q E h => ?_) (fun cdv A outer s H vs Q E hr h => ?_)
  · obtain ⟨n, x, rfl, _⟩ := h
    rfl
  · obtain ⟨n, v, rfl, hw, kq⟩ := h
    have hw' := hw
    obtain ⟨p, k, rfl, hp, hk, hn⟩ := hw
    refine ⟨_, (pss_cons (ps_if (PW.pt (pw_or (pt_not (pt_val (pe_callB call_isi (by rfl) (b_isinstance B) (by decide +kernel) (pa_cons (pv 0) (pa_cons (pe_bltn (v := .ty "tuple") (by rfl) (b_tuple B) (by decide +kernel) rfl) pa_nil))))) (pw_or (pt_cmpR op_eq (pe_callB call_lenQ (by rfl) (b_len B) (by decide +kernel) (pa_cons (pv 0) pa_nil)) pe_int (nomark _)) (pw_or (pt_not (pt_val (pe_callB call_isi (by rfl) (b_isinstance B) (by decide +kernel) (pa_cons (pe_ix ix_tup (pv 0) pe_int (fun _ _ => rfl)) (pa_cons (pe_bltn (v := .ty "str") (by rfl) (b_str B) (by decide +kernel) rfl) pa_nil))))) (pw_or1 (pt_cmpR op_notInD (pe_ix ix_tup (pv 0) pe_int (fun _ _ => rfl)) (pe_glob (v := .ref (He.ga K "ROWS")) (by rfl) (g_ROWS B) rfl) (by rfl))))))) (pss_one (ps_ret pe_bl)) pss_nil)
      (pss_cons (ps_set (i := 1) sc_is_row.nd rfl (Or.inl rfl) (pe_ix ix_kdict (pe_glob (v := .ref (He.ga K "ROWS")) (by rfl) (g_ROWS B) rfl) (pe_ix ix_tup (pv 0) pe_int (fun _ _ => rfl)) (fun _ _ => rfl)))
      (pss_one (ps_ret (pe_callL (E := C8.E0) (i := 1) (dvs := []) (ok_is_hold_row' B F2) (hr.mono (by decide)) rfl (Or.inl rfl) F2.kp (F2.bindsN (fun _ _ _ _ _ _ us hl => match us, hl with | [_], _ => rfl)) .nil C8.pass0 (pa_cons (pv 0) pa_nil)))))), ?_⟩
    have KD := ROWS_at (w := w) B
    obtain ⟨u, hN, hu⟩ := ROWS_val B (q := ("hold", .glo "is_hold_row")) (List.mem_of_getElem? (i := 0) rfl)
    walk_at "rd"
    exact kq _ (by walk_at "sm")
end
section
variable {P : Program} {w : World} {K : PySem.W.Frag} {mg : Str → Option Value} {base : Heap}
theorem updN {H : Hp} {a b : Addr} {o : HO} (e : upd H a o b = none) : H b = none := by
  unfold upd at e
  split at e
  · cases e
  · exact e
theorem sc_need_rows : FnScope ["rows", "seen", "row"] ["rows"] (defScope s_need_rows) := ⟨rfl, rfl, rfl, by decide +kernel, rfl, by decide +kernel, by decide +kernel⟩
theorem ok_need_rows (B : Bk w K mg) : C8.Cal P w K mg base 8 "need_rows" (sp_need_rows K) [] := by
  obtain ⟨fd, F⟩ := D_need_rows B
  refine calD F (g_need_rows B) sc_need_rows (fun _ _ _ _ _ _ us hl => match us, hl with | [_], _ => rfl) (fun vs H Q E h => ?_) (fun cdv A outer s H vs Q E hr h => ?_)
  · obtain ⟨l, o, rfl, _⟩ := h
    rfl
  · obtain ⟨l, o, rfl, hl, ho, kq⟩ := h
    have hu := hu_of hr
    refine ⟨_, (pss_cons (ps_if (PW.pt (pw_or (pt_not (pt_val (pe_callB call_isiT (by rfl) (b_isinstance B) (by decide +kernel) (pa_cons (pv 0) (pa_cons (pe_tup (pa_cons (pe_bltn (v := .ty "list") (by rfl) (b_list B) (by decide +kernel) rfl) (pa_cons (pe_bltn (v := .ty "tuple") (by rfl) (b_tuple B) (by decide +kernel) rfl) pa_nil))) pa_nil))))) (pw_or1 (pt_cmpR op_gt (pe_callB call_lenQ (by rfl) (b_len B) (by decide +kernel) (pa_cons (pv 0) pa_nil)) (pe_gi (i_MOST_ROWS B)) (nomark _))))) (pss_one ps_never) pss_nil)
      (pss_cons (ps_set (i := 1) sc_need_rows.nd rfl (Or.inl rfl) pe_dnewK)
      (pss_one (ps_for PassesOwn.never rfl (pi_list (pv 0)) (pg_name (i := 2) sc_need_rows.nd rfl (Or.inl rfl)) (pss_cons (ps_if (pt_not (pt_val (C8.pe_c (ok_is_row B) hr (by decide) (by rfl) (pa_cons (pv 2) pa_nil)))) (pss_one ps_never) pss_nil)
      (pss_cons (ps_if (pt_cmp (pc_din hu (pe_ix ix_tup (pv 2) pe_int (fun _ _ => rfl)) (pv 1))) (pss_one ps_never) pss_nil)
      (pss_one (ps_dput hu (pv 1) (pe_ix ix_tup (pv 2) pe_int (fun _ _ => rfl)) pe_bl rfl)))))))), ?_⟩
    have hlo := rows_le o
    walk_at "rd"
    rename_i tp ntp p np
    have s1 : Same H (upd (upd H tp (HO.tup [V.ty "list", V.ty "tuple"])) p (HO.dK [])) := by walk_at "sm"
    refine ⟨⟨gRows o, by walk_at "hp"⟩, ?_⟩
    cases o with
    | none =>
      refine for_go 0 (fun i _ H' => Same H H') s1 (fun i _ _ hi _ => by omega) (fun _ H' s' => ⟨[], by walk_at "hp", Nat.le_refl _⟩) (fun i _ _ _ _ hi => by omega) (fun _ H' s' => kq H' s')
    | some r =>
      have rk := ho r rfl
      refine for_go 1 (fun i σ' H' => Same H H' ∧ (i = 0 → σ' = [some (.ref l), some (.ref p), none] ∧ H' p = some (.dK []))) ⟨s1, fun _ => ⟨rfl, upd_same⟩⟩ (fun i _ H' hi s' => ⟨[r.2], r.2, by have := s'.1; walk_at "hp", by
          obtain rfl : i = 0 := by omega
          exact rfl⟩)
        (fun _ H' s' => ⟨[r.2], by have := s'.1; walk_at "hp", Nat.le_refl _⟩) (fun i σ' x H1 H2 hi s' hy => ?_) (fun _ H' s' => kq H' s'.1)
      obtain rfl : i = 0 := by omega
      obtain ⟨s2, e⟩ := s'
      obtain ⟨rfl, hp⟩ := e rfl
      have hl' : SqL K H1 l [r.2] := by walk_at "hp"
      obtain ⟨rfl, e2⟩ := itl_eq hy hl'
      cases e2
      have rk' := rk.same s2
      obtain ⟨q, k, eq, hq, hk, hn⟩ := rk'
      have rk' := rk.same s2
      rw [eq] at rk' ⊢
      walk_at "rd"
      exact ⟨same_putnew (by walk_at "sm") (updN np), fun z => absurd z (by decide)⟩
end
section
variable {P : Program} {w : World} {K : PySem.W.Frag} {mg : Str → Option Value} {base : Heap}
theorem sc_Ground_rows : FnScope ["self"] ["self"] (defScope s_Ground_rows) := ⟨rfl, rfl, rfl, by decide +kernel, rfl, by decide +kernel, by decide +kernel⟩
theorem ok_Ground_rows (B : Bk w K mg) : C8.Met P w K mg base 1 (He.ga K "Ground") "rows" (sp_Ground_rows K) [] := by
  obtain ⟨fd, F⟩ := D_Ground_rows B
  refine metD (c_Ground B) (m_Ground_rows B) F sc_Ground_rows (fun _ _ _ _ _ _ us hl => match us, hl with | [_], _ => rfl) (fun vs H Q E h => ?_) (fun cdv A outer s H vs Q E hr h => ?_)
  · obtain ⟨g, o, rfl, _⟩ := h
    rfl
  · obtain ⟨g, o, rfl, ⟨a, dx, l, d, rfl, ha, hl, hd, _⟩, kq⟩ := h
    have cG := c_Ground B
    have n1 := n_Ground_kept_rows B
    refine ⟨_, (pss_one (ps_ret (pe_callTy call_listOf (by rfl) (b_list B) (by decide +kernel) (pa_cons (pe_fld (pv 0) rfl) pa_nil)))), ?_⟩
    walk_at "rd"
    exact kq _ _ (by walk_at "sm") (by walk_at "hp")
theorem sc_Ground_has : FnScope ["self", "thing"] ["self", "thing"] (defScope s_Ground_has) := ⟨rfl, rfl, rfl, by decide +kernel, rfl, by decide +kernel, by decide +kernel⟩
theorem ok_Ground_has (B : Bk w K mg) : C8.Met P w K mg base 1 (He.ga K "Ground") "has" (sp_Ground_has K) [] := by
  obtain ⟨fd, F⟩ := D_Ground_has B
  refine metD (c_Ground B) (m_Ground_has B) F sc_Ground_has (fun _ _ _ _ _ _ us hl => match us, hl with | [_, _], _ => rfl) (fun vs H Q E h => ?_) (fun cdv A outer s H vs Q E hr h => ?_)
  · obtain ⟨g, n, o, rfl, _⟩ := h
    rfl
  · obtain ⟨g, n, o, rfl, ⟨a, dx, l, d, rfl, ha, hl, hd, _⟩, kq⟩ := h
    have cG := c_Ground B
    have n1 := n_Ground_kept_by B
    have hu := hu_of hr
    refine ⟨_, (pss_one (ps_ret (pe_and (pe_callB call_isi (by rfl) (b_isinstance B) (by decide +kernel) (pa_cons (pv 1) (pa_cons (pe_bltn (v := .ty "str") (by rfl) (b_str B) (by decide +kernel) rfl) pa_nil))) (pe_one (pe_cmp (pc_din hu (pv 1) (pe_fld (pv 0) rfl))))))), ?_⟩
    rcases kq with ⟨rfl, kq⟩ | ⟨r, rfl, kq⟩
    · have hd' : H d = some (.dK []) := hd
      walk_at "rd"
      exact kq
    · have hd' : H d = some (.dK [(.inr n, r)]) := hd
      walk_at "rd"
      exact kq
theorem sc_Ground_told : FnScope ["self", "name"] ["self", "name"] (defScope s_Ground_told) := ⟨rfl, rfl, rfl, by decide +kernel, rfl, by decide +kernel, by decide +kernel⟩
theorem ok_Ground_told (B : Bk w K mg) : C8.Met P w K mg base 2 (He.ga K "Ground") "told" (sp_Ground_told K) [] := by
  obtain ⟨fd, F⟩ := D_Ground_told B
  refine metD (c_Ground B) (m_Ground_told B) F sc_Ground_told (fun _ _ _ _ _ _ us hl => match us, hl with | [_, _], _ => rfl) (fun vs H Q E h => ?_) (fun cdv A outer s H vs Q E hr h => ?_)
  · obtain ⟨g, n, r, rfl, _⟩ := h
    rfl
  · obtain ⟨g, n, r, rfl, hg, kq⟩ := h
    have hg' := hg
    obtain ⟨a, dx, l, d, rfl, ha, hl, hd, _⟩ := hg'
    have cG := c_Ground B
    have n1 := n_Ground_kept_by B
    have hu := hu_of hr
    have hd' : H d = some (.dK [(.inr n, r)]) := hd
    refine ⟨_, (pss_cons (ps_if (pt_not (pt_val (C8.pe_mt (ok_Ground_has B) hr (by decide) (pv 0) (pa_cons (pv 1) pa_nil)))) (pss_one ps_never) pss_nil)
      (pss_one (ps_ret (pe_dget hu (pe_fld (pv 0) rfl) (pv 1) (fun _ _ => rfl))))), ?_⟩
    walk_at "rd"
    exact kq
theorem sc_row_of : FnScope ["ground", "name", "word", "row"] ["ground", "name", "word"] (defScope s_row_of) := ⟨rfl, rfl, rfl, by decide +kernel, rfl, by decide +kernel, by decide +kernel⟩
theorem ok_row_of (B : Bk w K mg) : C8.Cal P w K mg base 3 "row_of" (sp_row_of K) [] := by
  obtain ⟨fd, F⟩ := D_row_of B
  refine calD F (g_row_of B) sc_row_of (fun _ _ _ _ _ _ us hl => match us, hl with | [_, _, _], _ => rfl) (fun vs H Q E h => ?_) (fun cdv A outer s H vs Q E hr h => ?_)
  · obtain ⟨g, n, r, rfl, _⟩ := h
    rfl
  · obtain ⟨g, n, r, rfl, hg, kq⟩ := h
    have hg' := hg
    obtain ⟨p, k, rfl, hp, _, _⟩ := hg'.row
    refine ⟨_, (pss_cons (ps_if (pt_not (pt_val (C8.pe_mt (ok_Ground_has B) hr (by decide) (pv 0) (pa_cons (pv 1) pa_nil)))) (pss_one (ps_ret pe_non)) pss_nil)
      (pss_cons (ps_set (i := 3) sc_row_of.nd rfl (Or.inl rfl) (C8.pe_mt (ok_Ground_told B) hr (by decide) (pv 0) (pa_cons (pv 1) pa_nil)))
      (pss_one (ps_ret (pe_ifExp (pt_cmpR op_eq (pe_ix ix_tup (pv 3) pe_int (fun _ _ => rfl)) (pv 2) (nomark _)) (pv 3) pe_non))))), ?_⟩
    walk_at "rd"
    exact kq _ (by walk_at "sm")
theorem sc_gone : FnScope ["ground", "term", "row", "found"] ["ground", "term"] (defScope s_gone) := ⟨rfl, rfl, rfl, by decide +kernel, rfl, by decide +kernel, by decide +kernel⟩
theorem ok_gone (B : Bk w K mg) : C8.Cal P w K mg base 4 "gone" (sp_gone K) [] := by
  obtain ⟨fd, F⟩ := D_gone B
  refine calD F (g_gone B) sc_gone (fun _ _ _ _ _ _ us hl => match us, hl with | [_, _], _ => rfl) (fun vs H Q E h => ?_) (fun cdv A outer s H vs Q E hr h => ?_)
  · obtain ⟨g, o, t, v, rfl, _⟩ := h
    rfl
  · obtain ⟨g, o, t, v, rfl, hg, ht, hs, kq⟩ := h
    refine ⟨_, (pss_cons (ps_if (PW.pt (pw_and (pt_cmpR op_eq (pe_ix ix_tup (pv 1) pe_int (fun _ _ => rfl)) pe_str (nomark _)) (pw_and1 (pt_cmpR op_eq (pe_ix ix_tup (pe_ix ix_tup (pv 1) pe_int (fun _ _ => rfl)) pe_int (fun _ _ => rfl)) pe_str (nomark _))))) (pss_one ps_never) pss_nil)
      (pss_cons (ps_if (pt_cmpR op_eq (pe_ix ix_tup (pv 1) pe_int (fun _ _ => rfl)) pe_str (nomark _)) (pss_cons (ps_set (i := 2) sc_gone.nd rfl (Or.inl rfl) (C8.pe_c (ok_row_of B) hr (by decide) (by rfl) (pa_cons (pv 0) (pa_cons (pe_ix ix_tup (pv 1) pe_int (fun _ _ => rfl)) (pa_cons pe_str pa_nil)))))
      (pss_one (ps_ret (pe_ifExp (pt_cmpR op_isNo (pv 2) pe_non (nomark _)) pe_non (pe_tup (pa_cons pe_str (pa_cons (pe_ix ix_tup (pv 2) pe_int (fun _ _ => rfl)) pa_nil))))))) pss_nil)
      (pss_cons (ps_if (pt_cmpR op_eq (pe_ix ix_tup (pv 1) pe_int (fun _ _ => rfl)) pe_str (nomark _)) (pss_one ps_never) pss_nil)
      (pss_cons (ps_set (i := 3) sc_gone.nd rfl (Or.inl rfl) (pe_ifExp (pt_cmpR op_eq (pe_ix ix_tup (pv 1) pe_int (fun _ _ => rfl)) pe_str (nomark _)) pe_never pe_non))
      (pss_one (ps_ret (pe_ifExp (pt_cmpR op_isNo (pv 3) pe_non (nomark _)) pe_non (pe_tup (pa_cons pe_str (pa_cons (pv 3) pa_nil)))))))))), ?_⟩
    cases t with
    | at_ k =>
      obtain ⟨p, rfl, hp⟩ := ht
      walk_at "rd"
      exact kq _ (by walk_at "sm")
    | kind k =>
      obtain ⟨p, rfl, hp⟩ := ht
      walk_at "rd"
      exact kq _ (by walk_at "sm")
    | name n =>
      obtain ⟨p, rfl, hp⟩ := ht
      obtain ⟨r, rfl⟩ := hs
      walk_at "rd"
      exact kq _ (by walk_at "sm")
    | all a b =>
      obtain ⟨p, x, y, rfl, hp, _, _⟩ := ht
      walk_at "rd"
      exact kq _ (by walk_at "sm")
    | _ => exact hs.elim
end
section
variable {P : Program} {w : World} {K : PySem.W.Frag} {mg : Str → Option Value} {base : Heap}
theorem ite_eq {a : Addr} {xs : List V} {i : Nat} {x : V} {H H' : Hp} (h : (Ite K a).yld i H x H') (hl : SqL K H a xs) : ∃ t y, x = .ref t ∧ H t = none ∧ H' = upd H t (.tup [.int (i : Nat), y]) ∧ xs[i]? = some y := by
  obtain ⟨t, y, e1, e2, e3, e4⟩ := h
  exact ⟨t, y, e1, e2, e3, e4 xs hl⟩
theorem sc_first_step : FnScope ["ground", "term", "number", "part", "spot"] ["ground", "term"] (defScope s_first_step) := ⟨rfl, rfl, rfl, by decide +kernel, rfl, by decide +kernel, by decide +kernel⟩
theorem ok_first_step0 (B : Bk w K mg) : C8.Cal P w K mg base 5 "first_step" (sp_first_step0 K) [] := by
  obtain ⟨fd, F⟩ := D_first_step B
  refine calD F (g_first_step B) sc_first_step (fun _ _ _ _ _ _ us hl => match us, hl with | [_, _], _ => rfl) (fun vs H Q E h => ?_) (fun cdv A outer s H vs Q E hr h => ?_)
  · obtain ⟨g, o, t, v, rfl, _⟩ := h
    rfl
  · obtain ⟨g, o, t, v, rfl, hg, ht, hs, l, kq⟩ := h
    refine ⟨_, (pss_cons (ps_if (pt_cmpR op_notNo (C8.pe_c (ok_gone B) hr (by decide) (by rfl) (pa_cons (pv 0) (pa_cons (pv 1) pa_nil))) pe_non (nomark _)) (pss_one ps_never) pss_nil)
      (pss_cons (ps_for PassesOwn.never rfl (pi_enum (by rfl) (b_enumerate B) (pa_cons (C8.pe_c (ok_inner B) hr (by decide) (by rfl) (pa_cons (pv 1) pa_nil)) pa_nil)) (pg_tup2 (K0 := K) rfl (i := 2) (j := 3) rfl sc_first_step.nd rfl rfl (Or.inl rfl) (Or.inl rfl) (Or.inl rfl) (Or.inl rfl)) (pss_cons ps_never (pss_one ps_never)))
      (pss_one (ps_ret pe_non)))), ?_⟩
    walk_at "rd"
    refine q_gone hg ht hs ?_
    walk_at "rd"
    refine q_inner0 (by walk_at "tm") l ?_
    walk_at "rd"
    refine ⟨_, _, rfl, by walk_at "hp", for0 ⟨[], by walk_at "hp", Nat.le_refl _⟩ ?_⟩
    walk_at "rd"
    exact kq _ (by walk_at "sm")
theorem ok_first_step (B : Bk w K mg) : C8.Cal P w K mg base 6 "first_step" (sp_gone K) [] := by
  obtain ⟨fd, F⟩ := D_first_step B
  refine calD F (g_first_step B) sc_first_step (fun _ _ _ _ _ _ us hl => match us, hl with | [_, _], _ => rfl) (fun vs H Q E h => ?_) (fun cdv A outer s H vs Q E hr h => ?_)
  · obtain ⟨g, o, t, v, rfl, _⟩ := h
    rfl
  · obtain ⟨g, o, t, v, rfl, hg, ht, hs, kq⟩ := h
    refine ⟨_, (pss_cons (ps_if (pt_cmpR op_notNo (C8.pe_c (ok_gone B) hr (by decide) (by rfl) (pa_cons (pv 0) (pa_cons (pv 1) pa_nil))) pe_non (nomark _)) (pss_one ps_never) pss_nil)
      (pss_cons (ps_for PassesOwn.never rfl (pi_enum (by rfl) (b_enumerate B) (pa_cons (C8.pe_c (ok_inner B) hr (by decide) (by rfl) (pa_cons (pv 1) pa_nil)) pa_nil)) (pg_tup2 (K0 := K) rfl (i := 2) (j := 3) rfl sc_first_step.nd rfl rfl (Or.inl rfl) (Or.inl rfl) (Or.inl rfl) (Or.inl rfl)) (pss_cons (ps_set (i := 4) sc_first_step.nd rfl (Or.inl rfl) (C8.pe_c (ok_first_step0 B) hr (by decide) (by rfl) (pa_cons (pv 0) (pa_cons (pv 3) pa_nil))))
      (pss_one (ps_if (pt_cmpR op_notNo (pv 4) pe_non (nomark _)) (pss_one ps_never) pss_nil))))
      (pss_one (ps_ret pe_non)))), ?_⟩
    walk_at "rd"
    refine q_gone hg ht hs ?_
    walk_at "rd"
    by_cases l : Lf t
    · refine q_inner0 (by walk_at "tm") l ?_
      walk_at "rd"
      refine ⟨_, _, rfl, by walk_at "hp", for0 ⟨[], by walk_at "hp", Nat.le_refl _⟩ ?_⟩
      walk_at "rd"
      exact kq _ (by walk_at "sm")
    · cases t with
      | all a b =>
        obtain ⟨⟨la, lb⟩, sa, sb⟩ := hs
        have ht' := ht
        obtain ⟨p, x, y, rfl, hp, hx, hy⟩ := ht'
        refine ⟨_, _, rfl, by walk_at "tm", .inr ⟨a, b, p, x, y, rfl, rfl, by walk_at "hp", ?_⟩⟩
        walk_at "rd"
        rename_i L H1 s1 hL
        refine ⟨_, _, rfl, SqL.of hL, for_go 2 (fun i σ' H' => Same H1 H' ∧ ∃ c d e, σ' = [some g, some (.ref p), c, d, e]) ⟨by walk_at "sm", _, _, _, rfl⟩ (fun i _ H' hi s' => ?_) (fun _ H' s' => ⟨[x, y], by have := s'.1; walk_at "hp", Nat.le_refl _⟩) (fun i σ' z H2 H3 hi s' hy' => ?_) (fun σ' H' s' => ?_)⟩
        · have s2 := s'.1
          match i, hi with
          | 0, _ => exact ⟨[x, y], x, by walk_at "hp", rfl⟩
          | 1, _ => exact ⟨[x, y], y, by walk_at "hp", rfl⟩
        · obtain ⟨s2, c, d, e, rfl⟩ := s'
          have hL' : SqL K H2 L [x, y] := by walk_at "hp"
          obtain ⟨t, u, rfl, nt, rfl, hu⟩ := ite_eq hy' hL'
          match i, hi with
          | 0, _ =>
            cases hu
            walk_at "rd"
            refine q_first0 (t := a) (by walk_at "tm") (by walk_at "tm") sa la ?_
            walk_at "rd"
            exact ⟨by walk_at "sm", _, _, _, rfl⟩
          | 1, _ =>
            cases hu
            walk_at "rd"
            refine q_first0 (t := b) (by walk_at "tm") (by walk_at "tm") sb lb ?_
            walk_at "rd"
            exact ⟨by walk_at "sm", _, _, _, rfl⟩
        · obtain ⟨s2, c, d, e, rfl⟩ := s'
          walk_at "rd"
          exact kq _ (by walk_at "sm")
      | at_ k => exact absurd trivial l
      | kind k => exact absurd trivial l
      | name k => exact absurd trivial l
      | _ => exact hs.elim
theorem sc_gone_way : FnScope ["ground", "term", "most", "found", "here", "spot"] ["ground", "term", "most"] (defScope s_gone_way) := ⟨rfl, rfl, rfl, by decide +kernel, rfl, by decide +kernel, by decide +kernel⟩
theorem ok_gone_way (B : Bk w K mg) : C8.Cal P w K mg base 7 "gone_way" (sp_gone_way K) [] := by
  obtain ⟨fd, F⟩ := D_gone_way B
  refine calD F (g_gone_way B) sc_gone_way (fun _ _ _ _ _ _ us hl => match us, hl with | [_, _, _], _ => rfl) (fun vs H Q E h => ?_) (fun cdv A outer s H vs Q E hr h => ?_)
  · obtain ⟨g, o, t, v, rfl, _⟩ := h
    rfl
  · obtain ⟨g, o, t, v, rfl, hg, ht, hs, kq⟩ := h
    refine ⟨_, (pss_cons (ps_set (i := 3) sc_gone_way.nd rfl (Or.inl rfl) (pe_lst pa_nil))
      (pss_cons (ps_set (i := 4) sc_gone_way.nd rfl (Or.inl rfl) (pv 1))
      (pss_cons (ps_set (i := 5) sc_gone_way.nd rfl (Or.inl rfl) (C8.pe_c (ok_first_step B) hr (by decide) (by rfl) (pa_cons (pv 0) (pa_cons (pv 4) pa_nil))))
      (pss_cons (ps_while PassesOwn.never (pt_cmpR op_notNo (pv 5) pe_non (nomark _)) (pss_cons ps_never (pss_cons ps_never (pss_cons ps_never (pss_one ps_never)))))
      (pss_one (ps_ret (pe_tup (pa_cons (pv 4) (pa_cons (pv 3) pa_nil))))))))), ?_⟩
    walk_at "rd"
    refine q_gone (by walk_at "tm") (by walk_at "tm") hs ?_
    walk_at "rd"
    exact kq _ _ _ (by walk_at "sm") (by walk_at "hp")
theorem sc_work_out : FnScope ["ground", "term"] ["ground", "term"] (defScope s_work_out) := ⟨rfl, rfl, rfl, by decide +kernel, rfl, by decide +kernel, by decide +kernel⟩
theorem ok_work_out (B : Bk w K mg) : C8.Cal P w K mg base 8 "work_out" (sp_work_out K) [] := by
  obtain ⟨fd, F⟩ := D_work_out B
  refine calD F (g_work_out B) sc_work_out (fun _ _ _ _ _ _ us hl => match us, hl with | [_, _], _ => rfl) (fun vs H Q E h => ?_) (fun cdv A outer s H vs Q E hr h => ?_)
  · obtain ⟨g, o, t, v, rfl, _⟩ := h
    rfl
  · obtain ⟨g, o, t, v, rfl, hg, ht, hs, kq⟩ := h
    refine ⟨_, (pss_one (ps_ret (pe_ix ix_tup (C8.pe_c (ok_gone_way B) hr (by decide) (by rfl) (pa_cons (pv 0) (pa_cons (pv 1) (pa_cons (pe_gi (i_MOST_STEPS B)) pa_nil)))) pe_int (fun _ _ => rfl)))), ?_⟩
    walk_at "rd"
    refine q_gone_way (by walk_at "tm") (by walk_at "tm") hs (fun q l H' s' hq => ?_)
    walk_at "rd"
    exact kq _ (by walk_at "sm")
end
section
variable {P : Program} {w : World} {K : PySem.W.Frag} {mg : Str → Option Value} {base : Heap}
theorem ix_tupK {X : Cx} {K0 : PySem.W.Frag} (hK : X.K = K0) : IxR X (rIxT K0) := by
  subst hK
  exact ix_tup
theorem ix_listK {X : Cx} {K0 : PySem.W.Frag} (hK : X.K = K0) : IxR X (rIxL K0) := by
  subst hK
  exact ix_list
theorem pe_fldK {X : Cx} {K0 : PySem.W.Frag} (hK : X.K = K0) {e : Expr} {f : Str} {pos : Pos} {ta : TE} (he : PE X e ta) (hb : attributeBase e f X.env (eval e X.env) = eval e X.env) : PE X (.Attribute e f pos) (tFld K0 ta f) := by
  subst hK
  exact pe_fld he hb
theorem same_butx {H H1 H2 : Hp} {x : Addr} (s : Same H H1) (n : H x = none) (b : But x H1 H2) : Same H H2 := fun c o e => b c o (ne_of_none e n) (s c o e)
theorem sc_Ground_init : FnScope ["self", "rows", "some", "row"] ["self", "rows"] (defScope s_Ground_init) := ⟨rfl, rfl, rfl, by decide +kernel, rfl, by decide +kernel, by decide +kernel⟩
theorem ok_Ground_init (B : Bk w K mg) {fd : FuncData} (F : FunD K "__init__" "Ground.__init__" (defArgs s_Ground_init) (defBody s_Ground_init) (defScope s_Ground_init) [V.non] [] (He.ma K (He.ga K "Ground") "__init__") fd) : FnOk P w K mg base C8.CX0 9 (He.ma K (He.ga K "Ground") "__init__") fd ["self", "rows"] (sp_Ground_init K) := by
  refine fokD F sc_Ground_init (fun vs H Q E h => ?_) (fun cdv A outer s H vs Q E hr h => ?_)
  · obtain ⟨x, dx, a, o, rfl, _⟩ := h
    rfl
  · obtain ⟨x, dx, a, o, rfl, hx, ha, kq⟩ := h
    have cG := c_Ground B
    have n1 := n_Ground_kept_by B
    have n2 := n_Ground_kept_rows B
    refine ⟨_, (C8.pss_cut (ps_set (i := 2) sc_Ground_init.nd rfl (Or.inl rfl) (pe_ifExp (pt_cmpR op_isNo (pv 1) pe_non (nomark _)) (pe_lst pa_nil) (pv 1)))
      (pss_cons (ps_expr (C8.pe_c (ok_need_rows B) hr (by decide) (by rfl) (pa_cons (pv 2) pa_nil)))
      (pss_cons (ps_fld (pv 0) (pe_callTy call_listOf (by rfl) (b_list B) (by decide +kernel) (pa_cons (pv 2) pa_nil)) rfl)
      (pss_one (ps_fld (pv 0) (pe_callTy (call_dictPn rfl) (by rfl) (b_dict B) (by decide +kernel) (pa_cons (pe_lc (own := [("row", 3)]) (tt := tYes) rfl sc_Ground_init.nd (pi_list (pv 2)) (blkOk_by (N := ["self", "rows", "some", "row"]) (sc := defScope s_Ground_init) (by decide +kernel)) (fun _ _ _ _ _ => (pg_name (i := 3) sc_Ground_init.nd rfl (Or.inl rfl))) (fun _ _ _ _ _ => pts_nil) (fun _ _ _ _ _ => (pe_tup (pa_cons (pe_ix (ix_tupK (K0 := K) rfl) (pv 3) pe_int (fun _ _ => rfl)) (pa_cons (pv 3) pa_nil))))) pa_nil)) rfl))))), ?_⟩
    refine ⟨fun σ' H' => ∃ L, σ' = [some (.ref x), some a, some (.ref L), none] ∧ Same H H' ∧ H' L = some (.lst (gRows o)) ∧ ∀ r, o = some r → RowOk K H' r.1 r.2, ?_, ?_⟩
    · rcases ha with ⟨rfl, rfl⟩ | ⟨l, rfl, hl, ho⟩
      · walk_at "rd"
        exact ⟨by walk_at "sm", upd_same, fun _ z => nomatch z⟩
      · walk_at "rd"
        exact ⟨by walk_at "sm", hl, ho⟩
    · rintro σ' H1 ⟨L, rfl, s1, hL, ho⟩
      have hlo := rows_le o
      walk_at "rd"
      refine q_need_rows hL ho ?_
      walk_at "rd"
      rename_i H2 s2 l2 nl2
      generalize hH3 : upd (upd H2 l2 _) x _ = H3
      have x2 : H2 x = some (.ins (He.ga K "Ground") dx []) := by walk_at "hp"
      have b3 : But x H2 H3 := by
        subst hH3
        exact (But.of (same_new nl2)).trans but_upd
      have hx3 : H3 x = some (.ins (He.ga K "Ground") dx [("kept_rows", .ref l2)]) := by
        subst hH3
        exact upd_same
      have hl3 : H3 l2 = some (.lst (gRows o)) := by
        subst hH3
        rw [upd_ne (ne_of_none x2 nl2).symm]
        exact upd_same
      have hL3 : H3 L = some (.lst (gRows o)) := by
        refine b3 _ _ (fun z => ?_) (by walk_at "hp")
        have hL2 : H2 L = some (.lst (gRows o)) := by walk_at "hp"
        rw [z, x2] at hL2
        cases hL2
      have r3 : ∀ r, o = some r → RowOk K H3 r.1 r.2 := fun r e => by
        obtain ⟨p, k, e1, e2, e3, e4⟩ := (ho r e).same s2
        have tk : ∀ b xs, H2 b = some (.tup xs) → H3 b = some (.tup xs) := fun b xs e => b3 b _ (fun z => by
          rw [z, x2] at e
          cases e) e
        exact ⟨p, k, e1, tk _ _ e2, e3.mono tk, e4⟩
      have fin : ∀ (d : Addr) (H4 : Hp), Same H3 H4 → H4 d = some (.dK (gBy o)) → Q .non (upd H4 x (.ins (He.ga K "Ground") dx [("kept_rows", .ref l2), ("kept_by", .ref d)])) := fun d H4 s4 hd => by
        have x4 : H4 x = some (.ins (He.ga K "Ground") dx [("kept_rows", .ref l2)]) := by walk_at "hp"
        have bb : But x H4 (upd H4 x (.ins (He.ga K "Ground") dx [("kept_rows", .ref l2), ("kept_by", .ref d)])) := but_upd
        have hl4 : H4 l2 = some (.lst (gRows o)) := by walk_at "hp"
        refine kq _ ((But.of (s1.trans s2)).trans (b3.trans ((But.of s4).trans bb))) ⟨x, dx, l2, d, rfl, upd_same, bb _ _ (fun z => ?_) hl4, bb _ _ (fun z => ?_) hd, fun r e => ?_⟩
        · rw [z, x4] at hl4
          cases hl4
        · rw [z, x4] at hd
          cases hd
        · obtain ⟨p, k, e1, e2, e3, e4⟩ := (r3 r e).same s4
          have tk : ∀ b xs, H4 b = some (.tup xs) → (upd H4 x (.ins (He.ga K "Ground") dx [("kept_rows", .ref l2), ("kept_by", .ref d)])) b = some (.tup xs) := fun b xs e => bb b _ (fun z => by
            rw [z, x4] at e
            cases e) e
          exact ⟨p, k, e1, tk _ _ e2, e3.mono tk, e4⟩
      cases o with
      | none =>
        walk_at "rd"
        refine ⟨⟨[], SqL.of hL3⟩, lc_map 0 (Nat.zero_le _) (fun _ _ _ => True) (fun _ _ _ _ _ _ => trivial) (fun i H' hi _ => by omega) (fun H' _ => ⟨[], by walk_at "hp", Nat.le_refl _⟩) (fun i _ _ _ _ hi => by omega) (fun L2 ys H4 nl s4 hL4 hlen _ => ?_)⟩
        obtain rfl : ys = [] := List.length_eq_zero_iff.mp hlen
        walk_at "rd"
        refine r_dictP0 hL4 (fun d nd => ?_)
        have s5 : Same H3 (upd H4 d (.dK [])) := by walk_at "sm"
        walk_at "rd"
        exact fin d _ s5 upd_same
      | some r =>
        walk_at "rd"
        obtain ⟨p, k, e1, e2, e3, e4⟩ := r3 r rfl
        refine ⟨⟨[r.2], SqL.of hL3⟩, lc_map 1 (by decide) (fun _ y H' => ∃ q, y = .ref q ∧ H' q = some (.tup [.str r.1, r.2])) (fun _ _ _ _ ⟨q, e, z⟩ f => ⟨q, e, f _ _ z (fun _ => nofun)⟩) (fun i H' hi s' => ⟨[r.2], r.2, by walk_at "hp", by
          obtain rfl : i = 0 := by omega
          exact rfl⟩) (fun H' _ => ⟨[r.2], by walk_at "hp", Nat.le_refl _⟩) (fun i y H4 H5 R hi s4 hy hR => ?_) (fun L2 ys H4 nl s4 hL4 hlen hall => ?_)⟩
        · obtain rfl : i = 0 := by omega
          have hl' : SqL K H4 L [r.2] := by walk_at "hp"
          obtain ⟨rfl, e⟩ := itl_eq hy hl'
          cases e
          rw [e1]
          walk_at "rd"
          refine ⟨rfl, ?_⟩
          walk_at "rd"
          exact hR _ _ (by walk_at "sm") ⟨_, rfl, by rw [e1]; exact upd_same⟩
        · obtain ⟨y, rfl⟩ : ∃ y, ys = [y] := List.length_eq_one_iff.mp hlen
          obtain ⟨q, rfl, hq⟩ := hall 0 y rfl
          walk_at "rd"
          refine r_dictP1 hL4 hq (fun d nd => ?_)
          have s5 : Same H3 (upd H4 d (.dK [(.inr r.1, r.2)])) := by walk_at "sm"
          walk_at "rd"
          exact fin d _ s5 upd_same
end
section
variable {P : Program} {w : World} {K : PySem.W.Frag} {mg : Str → Option Value} {base : Heap}
theorem binds_Ground2 {fd : FuncData} (F : FunD K "__init__" "Ground.__init__" (defArgs s_Ground_init) (defBody s_Ground_init) (defScope s_Ground_init) [V.non] [] (He.ma K (He.ga K "Ground") "__init__") fd) : ∃ ds, Vals [] ds ∧ Binds K fd ["self", "rows"] ds :=
  F.binds1 2 1 (by decide) rfl (fun T kV doc pm an cdv ct us its l1 l2 => match us, l1, its, l2 with
    | [a, b], _, [i], _ => ⟨_, rfl, rfl⟩)
theorem binds_Ground1 {fd : FuncData} (F : FunD K "__init__" "Ground.__init__" (defArgs s_Ground_init) (defBody s_Ground_init) (defScope s_Ground_init) [V.non] [] (He.ma K (He.ga K "Ground") "__init__") fd) : ∃ ds, Vals [V.non] ds ∧ Binds K fd ["self", "rows"] ds :=
  F.binds1 1 0 (by decide) rfl (fun T kV doc pm an cdv ct us its l1 l2 => match us, l1, its, l2 with
    | [a], _, [i], _ => ⟨_, rfl, rfl⟩)
theorem mk_Ground (B : Bk w K mg) : C8.Mak P w K mg base 9 "Ground" (He.ga K "Ground") (sp_Ground_init K) [] := by
  obtain ⟨fd, F⟩ := D_Ground_init B
  obtain ⟨ds, d, b⟩ := binds_Ground2 F
  exact ⟨_, fd, _, ds, k_Ground B, ok_Ground_init B F, g_Ground B, b, d⟩
theorem mk_Ground0 (B : Bk w K mg) : C8.Mak P w K mg base 9 "Ground" (He.ga K "Ground") (sp_Ground_init K) [V.non] := by
  obtain ⟨fd, F⟩ := D_Ground_init B
  obtain ⟨ds, d, b⟩ := binds_Ground1 F
  exact ⟨_, fd, _, ds, k_Ground B, ok_Ground_init B F, g_Ground B, b, d⟩
end
section
variable {P : Program} {w : World} {K : PySem.W.Frag} {mg : Str → Option Value} {base : Heap}
theorem sc_Ground_with_row : FnScope ["self", "row"] ["self", "row"] (defScope s_Ground_with_row) := ⟨rfl, rfl, rfl, by decide +kernel, rfl, by decide +kernel, by decide +kernel⟩
theorem r_make {C : Addr} {sp : Sp} {dvs : List V} {E : XK} {t : TA} {σ : L2.St} {H : Hp} {Q : VK} (h : t σ H fun vs H1 => ∀ x dx, H1 x = none → H1 dx = none → dx ≠ x → sp (.ref x :: (vs ++ dvs)) (upd (upd H1 dx (.own x)) x (.ins C dx [])) (fun v H2 => v = .non ∧ Q (.ref x) H2) E) : tMake C sp dvs E t σ H Q := h
/-- a new ground -/
theorem q_mkGr {H : Hp} {Q : VK} {E : XK} {a : V} {o : Option (Str × V)} (ha : (a = .non ∧ o = none) ∨ ∃ l, a = .ref l ∧ H l = some (.lst (gRows o)) ∧ (∀ r, o = some r → RowOk K H r.1 r.2)) (k : ∀ g H', Same H H' → Gr K H' o g → Q g H') (x dx : Addr) (nx : H x = none) (nd : H dx = none) (ne : dx ≠ x) :
    sp_Ground_init K [.ref x, a] (upd (upd H dx (.own x)) x (.ins (He.ga K "Ground") dx [])) (fun v H2 => v = .non ∧ Q (.ref x) H2) E := by
  have s1 : Same H (upd (upd H dx (.own x)) x (.ins (He.ga K "Ground") dx [])) := (same_new nd).trans (same_new (by rw [upd_ne ne.symm]; exact nx))
  refine ⟨x, dx, a, o, rfl, upd_same, ?_, fun H' b hg => ⟨rfl, k _ H' (same_butx s1 nx b) hg⟩⟩
  rcases ha with ha | ⟨l, e, hl, hr⟩
  · exact .inl ha
  · exact .inr ⟨l, e, s1 _ _ hl, fun r e => (hr r e).same s1⟩
theorem q_with_row {H : Hp} {Q : VK} {E : XK} {g r : V} {n : Str} (h : Gr K H none g) (hr : RowOk K H n r) (k : ∀ g2 H', Same H H' → Gr K H' (some (n, r)) g2 → Q g2 H') : sp_with_row K (g :: ([r] ++ [])) H Q E := ⟨g, n, r, rfl, h, hr, k⟩
theorem ok_Ground_with_row (B : Bk w K mg) : C8.Met P w K mg base 11 (He.ga K "Ground") "with_row" (sp_with_row K) [] := by
  obtain ⟨fd, F⟩ := D_Ground_with_row B
  refine metD (c_Ground B) (m_Ground_with_row B) F sc_Ground_with_row (fun _ _ _ _ _ _ us hl => match us, hl with | [_, _], _ => rfl) (fun vs H Q E h => ?_) (fun cdv A outer s H vs Q E hr h => ?_)
  · obtain ⟨g, n, r, rfl, _⟩ := h
    rfl
  · obtain ⟨g, n, r, rfl, hg, hw, kq⟩ := h
    have cG := c_Ground B
    have n1 := n_Ground_kept_by B
    have n2 := n_Ground_kept_rows B
    have hg' := hg
    obtain ⟨a, dx, l, d, rfl, ha, hl, hd, _⟩ := hg'
    have hl' : H l = some (.lst []) := hl
    have hw' := hw
    obtain ⟨p, k, rfl, hp, _, _⟩ := hw'
    refine ⟨_, (pss_cons (ps_if (pt_not (pt_val (C8.pe_c (ok_is_row B) hr (by decide) (by rfl) (pa_cons (pv 1) pa_nil)))) (pss_one ps_never) pss_nil)
      (pss_cons (ps_if (pt_val (C8.pe_mt (ok_Ground_has B) hr (by decide) (pv 0) (pa_cons (pe_ix ix_tup (pv 1) pe_int (fun _ _ => rfl)) pa_nil))) (pss_one ps_never) pss_nil)
      (pss_cons (ps_if (pt_cmpR op_eq (pe_callB call_lenQ (by rfl) (b_len B) (by decide +kernel) (pa_cons (pe_fld (pv 0) rfl) pa_nil)) (pe_gi (i_MOST_ROWS B)) (nomark _)) (pss_one ps_never) pss_nil)
      (pss_one (ps_ret (C8.pe_mk (mk_Ground B) hr (by decide) (by rfl) (pa_cons (pe_op op_cat (pe_fld (pv 0) rfl) (pe_lst (pa_cons (pv 1) pa_nil))) pa_nil))))))), ?_⟩
    walk_at "rd"
    refine r_make ?_
    walk_at "rd"
    refine q_mkGr (o := some (n, .ref p)) (.inr ⟨_, rfl, upd_same, fun r e => ?_⟩) (fun g2 H' s' hg2 => ?_)
    · cases e
      walk_at "tm"
    · exact kq _ _ (by walk_at "sm") hg2
theorem sc_need_ground : FnScope ["thing"] ["thing"] (defScope s_need_ground) := ⟨rfl, rfl, rfl, by decide +kernel, rfl, by decide +kernel, by decide +kernel⟩
theorem ok_need_ground (B : Bk w K mg) : C8.Cal P w K mg base 1 "need_ground" (sp_need_ground K) [] := by
  obtain ⟨fd, F⟩ := D_need_ground B
  refine calD F (g_need_ground B) sc_need_ground (fun _ _ _ _ _ _ us hl => match us, hl with | [_], _ => rfl) (fun vs H Q E h => ?_) (fun cdv A outer s H vs Q E hr h => ?_)
  · obtain ⟨g, o, rfl, _⟩ := h
    rfl
  · obtain ⟨g, o, rfl, hg, kq⟩ := h
    refine ⟨_, (pss_one (ps_if (pt_not (pt_val (pe_callB (call_isCn (isC_Ground B)) (by rfl) (b_isinstance B) (by decide +kernel) (pa_cons (pv 0) (pa_cons (pe_glob (v := .ref (He.ga K "Ground")) (by rfl) (g_Ground B) rfl) pa_nil))))) (pss_one ps_never) pss_nil)), ?_⟩
    walk_at "rd"
    refine r_isGr (K := K) hg ?_
    walk_at "rd"
    exact kq
/-! ### the looker -/
def Lk (K : PySem.W.Frag) (H : Hp) (g : V) (v : V) : Prop := ∃ a dx, v = .ref a ∧ H a = some (.ins (He.ga K "Looker") dx [("base", g)])
theorem Lk.same {H H' : Hp} (s : Same H H') {g v : V} (h : Lk K H g v) : Lk K H' g v := by
  obtain ⟨a, dx, e, h⟩ := h
  exact ⟨a, dx, e, s _ _ h⟩
/-- a room, as a list -/
def TsAll (H : Hp) : List T → List V → Prop
  | [], [] => True
  | t :: ts, v :: vs => Tm H t v ∧ TsAll H ts vs
  | _, _ => False
theorem TsAll.same {H H' : Hp} (s : Same H H') : ∀ {ts : List T} {vs : List V}, TsAll H ts vs → TsAll H' ts vs
  | [], [], _ => trivial
  | _ :: _, _ :: _, ⟨a, b⟩ => ⟨a.same s, b.same s⟩
theorem TsAll.len {H : Hp} : ∀ {ts : List T} {vs : List V}, TsAll H ts vs → vs.length = ts.length
  | [], [], _ => rfl
  | _ :: _, _ :: _, ⟨_, b⟩ => congrArg Nat.succ b.len
theorem TsAll.get {H : Hp} : ∀ {ts : List T} {vs : List V}, TsAll H ts vs → ∀ {i : Nat} {t : T}, ts[i]? = some t → ∃ v, vs[i]? = some v ∧ Tm H t v
  | _ :: _, _ :: _, ⟨a, _⟩, 0, _, e => by
    cases e
    exact ⟨_, rfl, a⟩
  | _ :: _, _ :: _, ⟨_, b⟩, i + 1, _, e => b.get (by simpa using e)
theorem TsAll.app {H : Hp} : ∀ {ts : List T} {vs : List V} {t : T} {v : V}, TsAll H ts vs → Tm H t v → TsAll H (ts ++ [t]) (vs ++ [v])
  | [], [], _, _, _, h => ⟨h, trivial⟩
  | _ :: _, _ :: _, _, _, ⟨a, b⟩, h => ⟨a, b.app h⟩
def Rm (H : Hp) (ts : List T) (v : V) : Prop := ∃ l vs, v = .ref l ∧ H l = some (.lst vs) ∧ TsAll H ts vs
theorem Rm.same {H H' : Hp} (s : Same H H') {ts : List T} {v : V} (h : Rm H ts v) : Rm H' ts v := by
  obtain ⟨l, vs, e, a, b⟩ := h
  exact ⟨l, vs, e, s _ _ a, b.same s⟩
/-- what a term says -/
def Says (o : Option (Str × V)) (ts : List T) : T → T → Prop
  | .kind h, t' => h < 5 ∧ t' = .kind (h + 1)
  | .name n, t' => (∃ r, o = some (n, r)) ∧ t' = .kind 0
  | .at_ k, t' => k = 0 ∧ ∃ n r, ts[ts.length - 1]? = some (.name n) ∧ o = some (n, r) ∧ t' = .name n
  | .all a b, t' => (∃ n r, a = .name n ∧ b = .name n ∧ o = some (n, r)) ∧ t' = .kind 0
  | _, _ => False
def sp_look_ (K : PySem.W.Frag) (C : T → Nat → Prop) (D : Nat → Prop) : Sp := fun vs H Q _ => ∃ (lk g rm v sp : V) (o : Option (Str × V)) (ts : List T) (t t' : T), vs = [lk, rm, v, sp] ∧ Lk K H g lk ∧ Gr K H o g ∧ Rm H ts rm ∧ Tm H t v ∧ Says o ts t t' ∧ C t ts.length ∧ (∃ p xs, sp = .ref p ∧ H p = some (.tup xs) ∧ D xs.length) ∧ ∀ v' H', Same H H' → Tm H' t' v' → Q v' H'
def sp_height_ (K : PySem.W.Frag) (C : T → Nat → Prop) (D : Nat → Prop) : Sp := fun vs H Q _ => ∃ (lk g rm v sp : V) (o : Option (Str × V)) (ts : List T) (t : T) (h : Nat), vs = [lk, rm, v, sp] ∧ Lk K H g lk ∧ Gr K H o g ∧ Rm H ts rm ∧ Tm H t v ∧ Says o ts t (.kind h) ∧ C t ts.length ∧ (∃ p xs, sp = .ref p ∧ H p = some (.tup xs) ∧ D xs.length) ∧ ∀ H', Same H H' → Q (.int h) H'
def sp_row_for (K : PySem.W.Frag) : Sp := fun vs H Q _ => ∃ (g r : V) (n : Str) (p : Addr), vs = [g, .str n, .ref p] ∧ Gr K H (some (n, r)) g ∧ H p = some (.tup [.str "mean", .str "hold"]) ∧ ∀ H', Same H H' → Q r H'
theorem sc_row_for : FnScope ["ground", "name", "words", "row"] ["ground", "name", "words"] (defScope s_row_for) := ⟨rfl, rfl, rfl, by decide +kernel, rfl, by decide +kernel, by decide +kernel⟩
theorem ok_row_for (B : Bk w K mg) : C8.Cal P w K mg base 3 "row_for" (sp_row_for K) [] := by
  obtain ⟨fd, F⟩ := D_row_for B
  refine calD F (g_row_for B) sc_row_for (fun _ _ _ _ _ _ us hl => match us, hl with | [_, _, _], _ => rfl) (fun vs H Q E h => ?_) (fun cdv A outer s H vs Q E hr h => ?_)
  · obtain ⟨g, r, n, p, rfl, _⟩ := h
    rfl
  · obtain ⟨g, r, n, q, rfl, hg, hq, kq⟩ := h
    obtain ⟨p, k, rfl, hp, _, _⟩ := hg.row
    refine ⟨_, (pss_cons (ps_if (pt_not (pt_val (C8.pe_mt (ok_Ground_has B) hr (by decide) (pv 0) (pa_cons (pv 1) pa_nil)))) (pss_one (ps_ret pe_non)) pss_nil)
      (pss_cons (ps_set (i := 3) sc_row_for.nd rfl (Or.inl rfl) (C8.pe_mt (ok_Ground_told B) hr (by decide) (pv 0) (pa_cons (pv 1) pa_nil)))
      (pss_one (ps_ret (pe_ifExp (pt_cmpR op_in_seq (pe_ix ix_tup (pv 3) pe_int (fun _ _ => rfl)) (pv 2) (by rfl)) (pv 3) pe_non))))), ?_⟩
    walk_at "rd"
    exact kq _ (by walk_at "sm")
theorem sc_Looker_init : FnScope ["self", "ground"] ["self", "ground"] (defScope s_Looker_init) := ⟨rfl, rfl, rfl, by decide +kernel, rfl, by decide +kernel, by decide +kernel⟩
def sp_Looker_init (K : PySem.W.Frag) : Sp := fun vs H Q _ => ∃ (x dx : Addr) (g : V), vs = [.ref x, g] ∧ H x = some (.ins (He.ga K "Looker") dx []) ∧ Q .non (upd H x (.ins (He.ga K "Looker") dx [("base", g)]))
theorem mk_Looker (B : Bk w K mg) : C8.Mak P w K mg base 1 "Looker" (He.ga K "Looker") (sp_Looker_init K) [] := by
  obtain ⟨fd, F⟩ := D_Looker_init B
  refine makD (k_Looker B) (g_Looker B) F sc_Looker_init (fun _ _ _ _ _ _ us hl => match us, hl with | [_, _], _ => rfl) (fun vs H Q E h => ?_) (fun cdv A outer s H vs Q E hr h => ?_)
  · obtain ⟨x, dx, g, rfl, _⟩ := h
    rfl
  · obtain ⟨x, dx, g, rfl, hx, kq⟩ := h
    have cG := c_Looker B
    have n1 := n_Looker_base B
    refine ⟨_, (pss_one (ps_fld (pv 0) (pv 1) rfl)), ?_⟩
    walk_at "rd"
    exact kq
end
end
end Kx
namespace Kx
open PySem PySem.Spec PyProof.Rows L2
section
local macro_rules | `(tactic| walk_at "hp") => `(tactic| first
  | assumption
  | exact upd_same
  | (refine' same_new (by assumption) _ _ ?_; walk_at "hp")
  | ((with_reducible apply SqT.of); walk_at "hp") | ((with_reducible apply SqL.of); walk_at "hp")
  | (refine' (show Same _ _ by assumption) _ _ ?_; walk_at "hp")
  | (refine' same_seqT (same_new (by assumption)) ?_; walk_at "hp")
  | (refine' Same.seq (same_new (by assumption)) ?_; walk_at "hp")
  | (refine' same_seqT (show Same _ _ by assumption) ?_; walk_at "hp")
  | (refine' Same.seq (show Same _ _ by assumption) ?_; walk_at "hp"))
local macro_rules | `(tactic| walk_at "sm") => `(tactic| first
  | assumption | exact Same.refl _
  | (refine' Same.trans ?_ (same_new (by assumption)); walk_at "sm")
  | (refine' Same.trans ?_ (show Same _ _ by assumption); walk_at "sm"))
local macro_rules | `(tactic| walk_at "ar") => `(tactic| first | assumption | omega | (simp only [List.length_cons, List.length_nil, List.length_append]; omega))
local macro_rules | `(tactic| walk_at "dt") => `(tactic| first | assumption | exact decide_eq_true (by walk_at "ar") | exact r_nd (decide_eq_false (by walk_at "ar")) | decide +kernel | rfl)
local macro_rules | `(tactic| walk_at "df") => `(tactic| first | assumption | exact decide_eq_false (by walk_at "ar") | exact r_nt (decide_eq_true (by walk_at "ar")) | decide +kernel | rfl)
local macro_rules | `(tactic| walk_at "rd1") => `(tactic| first
  | with_reducible refine iteT ?_
  | with_reducible refine iteF ?_
  | with_reducible refine iteNT ?_
  | with_reducible refine iteNF ?_
  | with_reducible refine r_seq ?_
  | with_reducible refine r_ret ?_
  | with_reducible refine r_retN ?_
  | with_reducible refine r_set ?_
  | with_reducible refine r_ifS ?_
  | with_reducible refine r_drop ?_
  | with_reducible refine r_next ?_
  | with_reducible refine r_c ?_
  | with_reducible refine r_cb ?_
  | with_reducible refine r_op ?_
  | with_reducible refine r_nil ?_
  | with_reducible refine r_cons ?_
  | with_reducible refine r_call ?_
  | with_reducible refine r_and ?_
  | with_reducible refine r_or ?_
  | with_reducible refine r_not ?_
  | with_reducible refine r_if ?_
  | with_reducible refine r_tb ?_
  | with_reducible refine r_test ?_
  | with_reducible refine r_tnot ?_
  | with_reducible refine r_tand ?_
  | with_reducible refine r_tor ?_
  | with_reducible refine r_bl ?_
  | with_reducible refine r_chain ?_
  | with_reducible refine r_i0 ?_
  | with_reducible refine r_eqI ?_
  | with_reducible refine r_eqS ?_
  | with_reducible refine r_neI ?_
  | with_reducible refine r_neS ?_
  | with_reducible refine r_neB ?_
  | with_reducible refine r_isi_int ?_
  | with_reducible refine r_isi_int_bool ?_
  | with_reducible refine r_isi_str ?_
  | with_reducible refine r_tup ?_
  | with_reducible refine r_lst ?_
  | ((with_reducible refine' r_var ?h1 ?_); (case h1 => rfl))
  | ((with_reducible refine' iteOf ?h1 ?_); (case h1 => walk_at "dt"))
  | ((with_reducible refine' iteOff ?h1 ?_); (case h1 => walk_at "df"))
  | ((with_reducible refine' r_lenS ?h1 ?_); (case h1 => first | assumption | exact small_le (by walk_at "ar")))
  | ((with_reducible refine' r_inT ?h1 ?h2 ?h3 ?_); (case h1 => walk_at "hp"); (case h2 => rfl); (case h3 => rfl))
  | ((with_reducible refine' r_notInD ?h1 ?h2 ?_); (case h1 => assumption); (case h2 => assumption))
  | ((with_reducible refine' r_ixD ?h1 ?h2 ?h3 ?_); (case h1 => assumption); (case h2 => assumption); (case h3 => assumption))
  | with_reducible refine r_sl ?_ | with_reducible refine r_part ?_ | with_reducible refine r_nopart ?_
  | ((with_reducible refine' r_slT1 ?h1 ?_); (case h1 => walk_at "hp")) | ((with_reducible refine' r_gTup2 ?h1 ?_); (case h1 => walk_at "hp"))
  | with_reducible refine r_al (fun _ _ => ?_) | ((with_reducible refine r_le ?h1 ?_); (case h1 => walk_at "ar"))
  | with_reducible refine r_max ?_ | with_reducible refine r_inS ?_ | with_reducible refine r_isNN ?_ | with_reducible refine r_isNR ?_ | with_reducible refine r_notNN ?_ | with_reducible refine r_notNR ?_
  | ((with_reducible refine' r_listL ?h1 ?_); (case h1 => walk_at "hp")) | ((with_reducible refine' r_listT ?h1 ?_); (case h1 => walk_at "hp"))
  | ((with_reducible refine' r_tupL ?h1 ?_); (case h1 => walk_at "hp")) | ((with_reducible refine' r_tupT ?h1 ?_); (case h1 => walk_at "hp"))
  | with_reducible refine r_lc ?_ | with_reducible refine r_iStr ?_ | with_reducible refine r_for ?_ | with_reducible refine r_iList ?_ | with_reducible refine r_iTup ?_ | with_reducible refine r_iEnum ?_ | with_reducible refine r_iZipS ?_ | with_reducible refine r_gName ?_
  | with_reducible refine ⟨_, rfl, ?_⟩
  | ((with_reducible refine' r_isi_tup ?h1 ?_); (case h1 => walk_at "hp"))
  | ((with_reducible refine' r_lenT ?h1 ?_); (case h1 => walk_at "hp")) | ((with_reducible refine' r_lenL ?h1 ?_); (case h1 => walk_at "hp"))
  | ((with_reducible refine' r_ixT0 ?h1 ?h2 ?_); (case h1 => walk_at "hp"); (case h2 => rfl))
  | ((with_reducible refine' r_ixL0 ?h1 ?h2 ?_); (case h1 => walk_at "hp"); (case h2 => rfl))
  | ((with_reducible refine' r_ixT1 ?h1 ?h2 ?_); (case h1 => walk_at "hp"); (case h2 => rfl))
  | ((with_reducible refine' r_ixL1 ?h1 ?h2 ?_); (case h1 => walk_at "hp"); (case h2 => rfl))
  | ((with_reducible refine' r_ixT2 ?h1 ?h2 ?_); (case h1 => walk_at "hp"); (case h2 => rfl))
  | ((with_reducible refine' r_ixL2 ?h1 ?h2 ?_); (case h1 => walk_at "hp"); (case h2 => rfl))
  | ((with_reducible refine' r_ixT3 ?h1 ?h2 ?_); (case h1 => walk_at "hp"); (case h2 => rfl))
  | ((with_reducible refine' r_ixL3 ?h1 ?h2 ?_); (case h1 => walk_at "hp"); (case h2 => rfl)))
local macro_rules | `(tactic| walk_at "rd") => `(tactic| repeat walk_at "rd1")
local macro_rules | `(tactic| walk_at "tm") => `(tactic| first
  | assumption
  | ((with_reducible refine' Tm.same ?s1 ?s2); (case s2 => assumption); (case s1 => walk_at "sm"))
  | ((with_reducible refine' Gr.same ?s1 ?s2); (case s2 => assumption); (case s1 => walk_at "sm"))
  | ((with_reducible refine' RowOk.same ?s1 ?s2); (case s2 => assumption); (case s1 => walk_at "sm")))
local macro_rules | `(tactic| walk_at "rd1") => `(tactic| first
  | with_reducible refine r_sm (fun _ _ => ?_)
  | with_reducible refine r_sm2 (fun _ _ _ _ => ?_)
  | with_reducible refine r_meth ?_
  | with_reducible refine r_fld ?_
  | with_reducible refine r_while0 ?_
  | ((with_reducible refine' r_callL ?h1 ?_); (case h1 => rfl))
  | ((with_reducible refine' q_is_term ?h1 ?h2 ?h3 ?_); (case h1 => walk_at "tm"); (case h2 => first | assumption | trivial); (case h3 => first | assumption | decide))
  | ((with_reducible refine' q_need_term ?h1 ?h2 ?h3 ?_); (case h1 => walk_at "tm"); (case h2 => first | assumption | trivial); (case h3 => first | assumption | decide))
  | ((with_reducible refine' q_is_name ?h1 ?_); (case h1 => assumption))
  | ((with_reducible refine' q_row ?h1 ?_); (case h1 => walk_at "tm"))
  | ((with_reducible refine' q_has0 ?h1 ?_); (case h1 => walk_at "tm"))
  | ((with_reducible refine' q_has1 ?h1 ?_); (case h1 => walk_at "tm"))
  | ((with_reducible refine' q_told ?h1 ?_); (case h1 => walk_at "tm"))
  | ((with_reducible refine' q_row_of ?h1 ?_); (case h1 => walk_at "tm"))
  | ((with_reducible refine' r_asGr ?h1 ?h2 ?h3 ?_); (case h1 => walk_at "tm"); (case h2 => decide); (case h3 => decide))
  | ((with_reducible refine' r_inm ?h1 ?h2 ?_); (case h1 => walk_at "hp"); (case h2 => rfl))
  | ((with_reducible refine' r_ifd ?h1 ?h2 ?h3 ?h4 ?_); (case h3 => walk_at "hp"); (case h4 => rfl); (case h1 => assumption); (case h2 => assumption)))
local macro_rules | `(tactic| walk_at "dp") => `(tactic| first
  | assumption
  | exact Dp.non | exact Dp.bl _ | exact Dp.int _ | exact Dp.str _ | exact DpAll.nil
  | ((with_reducible refine' DpAll.cons ?s1 ?s2); (case s1 => walk_at "dp"); (case s2 => walk_at "dp"))
  | ((with_reducible refine' Tm.dp ?s1); (case s1 => walk_at "tm"))
  | ((with_reducible refine' Dp.lst ?s1 ?s2); (case s1 => walk_at "hp"); (case s2 => walk_at "dp"))
  | ((with_reducible refine' Dp.tup ?s1 ?s2); (case s1 => walk_at "hp"); (case s2 => walk_at "dp")))
local macro_rules | `(tactic| walk_at "rd1") => `(tactic| first
  | ((with_reducible refine' r_eqDv ?h1 ?h2 ?h3 ?h4 ?_); (case h1 => walk_at "dp"); (case h2 => walk_at "dp"); (case h3 => first | assumption | rfl); (case h4 => first | assumption | rfl))
  | ((with_reducible refine' r_neDv ?h1 ?h2 ?h3 ?h4 ?_); (case h1 => walk_at "dp"); (case h2 => walk_at "dp"); (case h3 => first | assumption | rfl); (case h4 => first | assumption | rfl)))
local macro_rules | `(tactic| walk_at "vv") => `(tactic| first | assumption | exact valV_nil | exact valV_pos rfl | ((refine' (valV_neg ?n1).trans ?n2); (case n1 => first | decide | simp); (case n2 => walk_at "vv")))
local macro_rules | `(tactic| walk_at "rd1") => `(tactic| first
  | with_reducible refine r_din ?_ | with_reducible refine r_dnin ?_ | with_reducible refine r_dget ?_ | with_reducible refine r_dput ?_ | with_reducible refine r_dnew ?_
  | ((with_reducible refine' r_dinS ?h1 ?h2 ?_); (case h1 => walk_at "hp"); (case h2 => walk_at "vv"))
  | ((with_reducible refine' r_dinI ?h1 ?h2 ?_); (case h1 => walk_at "hp"); (case h2 => walk_at "vv"))
  | ((with_reducible refine' r_dgetS ?h1 ?h2 ?_); (case h1 => walk_at "hp"); (case h2 => walk_at "vv"))
  | ((with_reducible refine' r_dgetI ?h1 ?h2 ?_); (case h1 => walk_at "hp"); (case h2 => walk_at "vv"))
  | ((with_reducible refine' r_dputS ?h1 ?h2 ?_); (case h1 => walk_at "hp"); (case h2 => walk_at "ar"))
  | ((with_reducible refine' r_dputI ?h1 ?h2 ?_); (case h1 => walk_at "hp"); (case h2 => walk_at "ar"))
  | ((with_reducible refine' r_isiLT ?h1 ?h2 ?_); (case h1 => walk_at "hp"); (case h2 => walk_at "hp"))
  | ((with_reducible refine' r_isiLT' ?h1 ?h2 ?_); (case h1 => walk_at "hp"); (case h2 => walk_at "hp")))
local macro_rules | `(tactic| walk_at "rd1") => `(tactic| first
  | with_reducible refine r_sfld ?_
  | ((with_reducible refine' r_ifs ?h1 ?h2 ?h3 ?h4 ?_); (case h1 => walk_at "hp"); (case h2 => assumption); (case h3 => assumption); (case h4 => walk_at "ar"))
  | ((with_reducible refine' r_isGr ?h1 ?_); (case h1 => walk_at "tm"))
  | ((with_reducible refine' r_catL ?h1 ?h2 ?h3 ?_); (case h1 => walk_at "hp"); (case h2 => walk_at "hp"); (case h3 => walk_at "ar")))
local macro_rules | `(tactic| walk_at "tm") => `(tactic| first
  | ((with_reducible refine' Lk.same ?s1 ?s2); (case s2 => assumption); (case s1 => walk_at "sm"))
  | ((with_reducible refine' Rm.same ?s1 ?s2); (case s2 => assumption); (case s1 => walk_at "sm")))
section
variable {P : Program} {w : World} {K : PySem.W.Frag} {mg : Str → Option Value} {base : Heap}
section
variable {H : Hp} {Q : VK} {E : XK}
theorem q_row_for {g r : V} {n : Str} {p : Addr} (h : Gr K H (some (n, r)) g) (hp : H p = some (.tup [.str "mean", .str "hold"])) (k : ∀ H', Same H H' → Q r H') : sp_row_for K ([g, .str n, .ref p] ++ []) H Q E := ⟨g, r, n, p, rfl, h, hp, k⟩
theorem q_look {C : T → Nat → Prop} {D : Nat → Prop} {lk g rm v sp : V} {o : Option (Str × V)} {ts : List T} {t t' : T} (h1 : Lk K H g lk) (h2 : Gr K H o g) (h3 : Rm H ts rm) (h4 : Tm H t v) (h5 : Says o ts t t') (h6 : C t ts.length) (h7 : ∃ p xs, sp = .ref p ∧ H p = some (.tup xs) ∧ D xs.length) (k : ∀ v' H', Same H H' → Tm H' t' v' → Q v' H') :
    sp_look_ K C D (lk :: ([rm, v, sp] ++ [])) H Q E := ⟨lk, g, rm, v, sp, o, ts, t, t', rfl, h1, h2, h3, h4, h5, h6, h7, k⟩
theorem q_look' {C : T → Nat → Prop} {D : Nat → Prop} {lk g rm v sp : V} {o : Option (Str × V)} {ts : List T} {t t' : T} (h1 : Lk K H g lk) (h2 : Gr K H o g) (h3 : Rm H ts rm) (h4 : Tm H t v) (h5 : Says o ts t t') (h6 : C t ts.length) (h7 : ∃ p xs, sp = .ref p ∧ H p = some (.tup xs) ∧ D xs.length) (k : ∀ v' H', Same H H' → Tm H' t' v' → Q v' H') :
    sp_look_ K C D ([lk, rm, v, sp] ++ []) H Q E := ⟨lk, g, rm, v, sp, o, ts, t, t', rfl, h1, h2, h3, h4, h5, h6, h7, k⟩
theorem q_height {C : T → Nat → Prop} {D : Nat → Prop} {lk g rm v sp : V} {o : Option (Str × V)} {ts : List T} {t : T} {h : Nat} (h1 : Lk K H g lk) (h2 : Gr K H o g) (h3 : Rm H ts rm) (h4 : Tm H t v) (h5 : Says o ts t (.kind h)) (h6 : C t ts.length) (h7 : ∃ p xs, sp = .ref p ∧ H p = some (.tup xs) ∧ D xs.length) (k : ∀ H', Same H H' → Q (.int h) H') :
    sp_height_ K C D (lk :: ([rm, v, sp] ++ [])) H Q E := ⟨lk, g, rm, v, sp, o, ts, t, h, rfl, h1, h2, h3, h4, h5, h6, h7, k⟩
theorem r_ixLc {p : Addr} {xs : List V} {i : Nat} {j : Int} {v : V} (hp : SqL K H p xs) (e : xs[i]? = some v) (hj : j = (i : Int)) (h : Q v H) : rIxL K (.ref p) (.int j) H Q := by
  subst hj
  exact r_ixL hp e h
end
theorem sc_look_at : FnScope ["looker", "room", "term", "spot"] ["looker", "room", "term", "spot"] (defScope s_look_at) := ⟨rfl, rfl, rfl, by decide +kernel, rfl, by decide +kernel, by decide +kernel⟩
theorem ok_look_at (B : Bk w K mg) {fd : FuncData} (F : FunD K "look_at" "look_at" (defArgs s_look_at) (defBody s_look_at) (defScope s_look_at) [] [] (He.ga K "look_at") fd) : FnOk P w K mg base C8.CX0 9 (He.ga K "look_at") fd ["looker", "room", "term", "spot"] (sp_look_ K (fun t _ => ∃ k, t = .at_ k) (fun _ => True)) := by
  refine fokD F sc_look_at (fun vs H Q E h => ?_) (fun cdv A outer s H vs Q E hr h => ?_)
  · obtain ⟨lk, g, rm, v, sp, o, ts, t, t', rfl, _⟩ := h
    rfl
  · obtain ⟨lk, g, rm, v, sp, o, ts, t, t', rfl, hlk, hg, hrm, ht, hsay, ⟨k, rfl⟩, _, kq⟩ := h
    have cG := c_Looker B
    have n1 := n_Looker_base B
    obtain ⟨rfl, n, r, e1, rfl, rfl⟩ := hsay
    obtain ⟨a, dx, rfl, ha⟩ := hlk
    obtain ⟨l, xs, rfl, hl, hts⟩ := hrm
    obtain ⟨y, ey, hy⟩ := hts.get e1
    have hlen := hts.len
    have h0 : 0 < ts.length := by
      have := (List.getElem?_eq_some_iff.mp e1).1
      omega
    obtain ⟨p, rfl, hp⟩ := ht
    refine ⟨_, (pss_cons (ps_if (pt_cmpR op_ge (pe_ix ix_tup (pv 2) pe_int (fun _ _ => rfl)) (pe_callB call_lenQ (by rfl) (b_len B) (by decide +kernel) (pa_cons (pv 1) pa_nil)) (nomark _)) (pss_one ps_never) pss_nil)
      (pss_one (ps_ret (C8.pe_c (ok_work_out B) hr (by decide) (by rfl) (pa_cons (pe_fld (pv 0) rfl) (pa_cons (C8.pe_c (ok_raise_in B) hr (by decide) (by rfl) (pa_cons (pe_ix ix_list (pv 1) (pe_op op_sub (pe_op op_sub (pe_callB call_lenQ (by rfl) (b_len B) (by decide +kernel) (pa_cons (pv 1) pa_nil)) pe_int) (pe_ix ix_tup (pv 2) pe_int (fun _ _ => rfl))) (fun _ _ => rfl)) (pa_cons (pe_op op_add (pe_ix ix_tup (pv 2) pe_int (fun _ _ => rfl)) pe_int) (pa_cons pe_int pa_nil)))) pa_nil)))))), ?_⟩
    walk_at "rd"
    refine r_ixLc (SqL.of hl) ey (by omega) ?_
    walk_at "rd"
    refine q_raise_in hy trivial (fun _ => nofun) ?_
    walk_at "rd"
    refine q_work_out (t := .name n) (by walk_at "tm") (by walk_at "tm") ⟨r, rfl⟩ ?_
    walk_at "rd"
    exact kq _ _ (by walk_at "sm") (by walk_at "tm")
theorem sc_look_kind : FnScope ["looker", "room", "term", "spot"] ["looker", "room", "term", "spot"] (defScope s_look_kind) := ⟨rfl, rfl, rfl, by decide +kernel, rfl, by decide +kernel, by decide +kernel⟩
theorem ok_look_kind (B : Bk w K mg) {fd : FuncData} (F : FunD K "look_kind" "look_kind" (defArgs s_look_kind) (defBody s_look_kind) (defScope s_look_kind) [] [] (He.ga K "look_kind") fd) : FnOk P w K mg base C8.CX0 9 (He.ga K "look_kind") fd ["looker", "room", "term", "spot"] (sp_look_ K (fun t _ => ∃ k, t = .kind k) (fun _ => True)) := by
  refine fokD F sc_look_kind (fun vs H Q E h => ?_) (fun cdv A outer s H vs Q E hr h => ?_)
  · obtain ⟨lk, g, rm, v, sp, o, ts, t, t', rfl, _⟩ := h
    rfl
  · obtain ⟨lk, g, rm, v, sp, o, ts, t, t', rfl, hlk, hg, hrm, ht, hsay, ⟨k, rfl⟩, _, kq⟩ := h
    obtain ⟨hk, rfl⟩ := hsay
    obtain ⟨p, rfl, hp⟩ := ht
    refine ⟨_, (pss_cons (ps_if (pt_cmpR op_eq (pe_ix ix_tup (pv 2) pe_int (fun _ _ => rfl)) (pe_gi (i_MOST_KIND B)) (nomark _)) (pss_one ps_never) pss_nil)
      (pss_one (ps_ret (pe_tup (pa_cons pe_str (pa_cons (pe_op op_add (pe_ix ix_tup (pv 2) pe_int (fun _ _ => rfl)) pe_int) pa_nil)))))), ?_⟩
    walk_at "rd"
    exact kq _ _ (by walk_at "sm") ⟨_, rfl, upd_same⟩
theorem sc_look_name : FnScope ["looker", "room", "term", "spot", "row"] ["looker", "room", "term", "spot"] (defScope s_look_name) := ⟨rfl, rfl, rfl, by decide +kernel, rfl, by decide +kernel, by decide +kernel⟩
theorem ok_look_name (B : Bk w K mg) {fd : FuncData} (F : FunD K "look_name" "look_name" (defArgs s_look_name) (defBody s_look_name) (defScope s_look_name) [] [] (He.ga K "look_name") fd) : FnOk P w K mg base C8.CX0 9 (He.ga K "look_name") fd ["looker", "room", "term", "spot"] (sp_look_ K (fun t _ => ∃ k, t = .name k) (fun _ => True)) := by
  refine fokD F sc_look_name (fun vs H Q E h => ?_) (fun cdv A outer s H vs Q E hr h => ?_)
  · obtain ⟨lk, g, rm, v, sp, o, ts, t, t', rfl, _⟩ := h
    rfl
  · obtain ⟨lk, g, rm, v, sp, o, ts, t, t', rfl, hlk, hg, hrm, ht, hsay, ⟨k, rfl⟩, _, kq⟩ := h
    obtain ⟨⟨r, rfl⟩, rfl⟩ := hsay
    have cG := c_Looker B
    have n1 := n_Looker_base B
    obtain ⟨a, dx, rfl, ha⟩ := hlk
    obtain ⟨p, rfl, hp⟩ := ht
    obtain ⟨q, kv, rfl, hq, hkv, _⟩ := hg.row
    refine ⟨_, (pss_cons (ps_set (i := 4) sc_look_name.nd rfl (Or.inl rfl) (C8.pe_c (ok_row_for B) hr (by decide) (by rfl) (pa_cons (pe_fld (pv 0) rfl) (pa_cons (pe_ix ix_tup (pv 2) pe_int (fun _ _ => rfl)) (pa_cons (pe_tup (pa_cons pe_str (pa_cons pe_str pa_nil))) pa_nil)))))
      (pss_cons (ps_if (pt_cmpR op_isNo (pv 4) pe_non (nomark _)) (pss_one ps_never) pss_nil)
      (pss_one (ps_ret (C8.pe_c (ok_work_out B) hr (by decide) (by rfl) (pa_cons (pe_fld (pv 0) rfl) (pa_cons (pe_ix ix_tup (pv 4) pe_int (fun _ _ => rfl)) pa_nil))))))), ?_⟩
    walk_at "rd"
    refine q_row_for (by walk_at "tm") upd_same ?_
    walk_at "rd"
    refine q_work_out (t := .kind 0) (by walk_at "tm") (by walk_at "tm") trivial ?_
    walk_at "rd"
    exact kq _ _ (by walk_at "sm") (by walk_at "tm")
end
section
variable {P : Program} {w : World} {K : PySem.W.Frag} {mg : Str → Option Value} {base : Heap}
theorem sc_Looker_look : FnScope ["self", "room", "term", "spot", "look"] ["self", "room", "term", "spot"] (defScope s_Looker_look) := ⟨rfl, rfl, rfl, by decide +kernel, rfl, by decide +kernel, by decide +kernel⟩
theorem ok_look0 (B : Bk w K mg) : C8.Met P w K mg base 10 (He.ga K "Looker") "look" (sp_look_ K (fun t _ => Lf t) (fun _ => True)) [] := by
  obtain ⟨fd, F⟩ := D_Looker_look B
  refine metD (c_Looker B) (m_Looker_look B) F sc_Looker_look (fun _ _ _ _ _ _ us hl => match us, hl with | [_, _, _, _], _ => rfl) (fun vs H Q E h => ?_) (fun cdv A outer s H vs Q E hr h => ?_)
  · obtain ⟨lk, g, rm, v, sp, o, ts, t, t', rfl, _⟩ := h
    rfl
  · obtain ⟨lk, g, rm, v, sp, o, ts, t, t', rfl, hlk, hg, hrm, ht, hsay, hC, hsp, kq⟩ := h
    have KD := LOOKS_at (w := w) B
    cases t with
    | at_ k =>
      obtain ⟨fd2, F2⟩ := D_look_at B
      obtain ⟨u, hN, hu⟩ := LOOKS_val B (q := ("at", .glo "look_at")) (List.mem_of_getElem? (i := 0) rfl)
      have ht' := ht
      obtain ⟨p, rfl, hp⟩ := ht'
      refine ⟨_, (pss_cons (ps_set (i := 4) sc_Looker_look.nd rfl (Or.inl rfl) (pe_ix ix_kdict (pe_glob (v := .ref (He.ga K "LOOKS")) (by rfl) (g_LOOKS B) rfl) (pe_ix ix_tup (pv 2) pe_int (fun _ _ => rfl)) (fun _ _ => rfl)))
        (pss_one (ps_ret (pe_callL (E := C8.E0) (i := 4) (dvs := []) (ok_look_at B F2) (hr.mono (by decide)) rfl (Or.inl rfl) F2.kp (F2.bindsN (fun _ _ _ _ _ _ us hl => match us, hl with | [_, _, _, _], _ => rfl)) .nil C8.pass0 (pa_cons (pv 0) (pa_cons (pv 1) (pa_cons (pv 2) (pa_cons (pv 3) pa_nil)))))))), ?_⟩
      walk_at "rd"
      exact q_look' hlk hg hrm ht hsay ⟨_, rfl⟩ hsp (fun v' H' s' h' => kq _ _ (by walk_at "sm") h')
    | kind k =>
      obtain ⟨fd2, F2⟩ := D_look_kind B
      obtain ⟨u, hN, hu⟩ := LOOKS_val B (q := ("kind", .glo "look_kind")) (List.mem_of_getElem? (i := 1) rfl)
      have ht' := ht
      obtain ⟨p, rfl, hp⟩ := ht'
      refine ⟨_, (pss_cons (ps_set (i := 4) sc_Looker_look.nd rfl (Or.inl rfl) (pe_ix ix_kdict (pe_glob (v := .ref (He.ga K "LOOKS")) (by rfl) (g_LOOKS B) rfl) (pe_ix ix_tup (pv 2) pe_int (fun _ _ => rfl)) (fun _ _ => rfl)))
        (pss_one (ps_ret (pe_callL (E := C8.E0) (i := 4) (dvs := []) (ok_look_kind B F2) (hr.mono (by decide)) rfl (Or.inl rfl) F2.kp (F2.bindsN (fun _ _ _ _ _ _ us hl => match us, hl with | [_, _, _, _], _ => rfl)) .nil C8.pass0 (pa_cons (pv 0) (pa_cons (pv 1) (pa_cons (pv 2) (pa_cons (pv 3) pa_nil)))))))), ?_⟩
      walk_at "rd"
      exact q_look' hlk hg hrm ht hsay ⟨_, rfl⟩ hsp (fun v' H' s' h' => kq _ _ (by walk_at "sm") h')
    | name k =>
      obtain ⟨fd2, F2⟩ := D_look_name B
      obtain ⟨u, hN, hu⟩ := LOOKS_val B (q := ("name", .glo "look_name")) (List.mem_of_getElem? (i := 3) rfl)
      have ht' := ht
      obtain ⟨p, rfl, hp⟩ := ht'
      refine ⟨_, (pss_cons (ps_set (i := 4) sc_Looker_look.nd rfl (Or.inl rfl) (pe_ix ix_kdict (pe_glob (v := .ref (He.ga K "LOOKS")) (by rfl) (g_LOOKS B) rfl) (pe_ix ix_tup (pv 2) pe_int (fun _ _ => rfl)) (fun _ _ => rfl)))
        (pss_one (ps_ret (pe_callL (E := C8.E0) (i := 4) (dvs := []) (ok_look_name B F2) (hr.mono (by decide)) rfl (Or.inl rfl) F2.kp (F2.bindsN (fun _ _ _ _ _ _ us hl => match us, hl with | [_, _, _, _], _ => rfl)) .nil C8.pass0 (pa_cons (pv 0) (pa_cons (pv 1) (pa_cons (pv 2) (pa_cons (pv 3) pa_nil)))))))), ?_⟩
      walk_at "rd"
      exact q_look' hlk hg hrm ht hsay ⟨_, rfl⟩ hsp (fun v' H' s' h' => kq _ _ (by walk_at "sm") h')
    | _ => exact hC.elim
theorem sc_Looker_height_of : FnScope ["self", "room", "term", "spot", "saying"] ["self", "room", "term", "spot"] (defScope s_Looker_height_of) := ⟨rfl, rfl, rfl, by decide +kernel, rfl, by decide +kernel, by decide +kernel⟩
theorem ok_height0 (B : Bk w K mg) : C8.Met P w K mg base 11 (He.ga K "Looker") "height_of" (sp_height_ K (fun t _ => Lf t) (fun _ => True)) [] := by
  obtain ⟨fd, F⟩ := D_Looker_height_of B
  refine metD (c_Looker B) (m_Looker_height_of B) F sc_Looker_height_of (fun _ _ _ _ _ _ us hl => match us, hl with | [_, _, _, _], _ => rfl) (fun vs H Q E h => ?_) (fun cdv A outer s H vs Q E hr h => ?_)
  · obtain ⟨lk, g, rm, v, sp, o, ts, t, n, rfl, _⟩ := h
    rfl
  · obtain ⟨lk, g, rm, v, sp, o, ts, t, n, rfl, hlk, hg, hrm, ht, hsay, hC, hsp, kq⟩ := h
    have hlk' := hlk
    obtain ⟨a, dx, rfl, ha⟩ := hlk'
    refine ⟨_, (pss_cons (ps_set (i := 4) sc_Looker_height_of.nd rfl (Or.inl rfl) (C8.pe_mt (ok_look0 B) hr (by decide) (pv 0) (pa_cons (pv 1) (pa_cons (pv 2) (pa_cons (pv 3) pa_nil)))))
      (pss_cons (ps_if (pt_cmpR op_ne (pe_ix ix_tup (pv 4) pe_int (fun _ _ => rfl)) pe_str (nomark _)) (pss_one ps_never) pss_nil)
      (pss_one (ps_ret (pe_ix ix_tup (pv 4) pe_int (fun _ _ => rfl)))))), ?_⟩
    walk_at "rd"
    refine q_look hlk hg hrm ht hsay hC hsp (fun v' H' s' h' => ?_)
    obtain ⟨p, rfl, hp⟩ := h'
    walk_at "rd"
    exact kq _ (by walk_at "sm")
theorem sc_look_all : FnScope ["looker", "room", "term", "spot", "first", "second"] ["looker", "room", "term", "spot"] (defScope s_look_all) := ⟨rfl, rfl, rfl, by decide +kernel, rfl, by decide +kernel, by decide +kernel⟩
theorem r_catA {H : Hp} {Q : VK} {a b : Addr} {xs ys : List V} (h1 : H a = some (.tup xs)) (h2 : H b = some (.tup ys)) (hl : xs.length + ys.length ≤ 1000) (hy : ys ≠ []) (k : ∀ p H', Same H H' → H' p = some (.tup (xs ++ ys)) → Q (.ref p) H') : rCatA K (.ref a) (.ref b) H Q := by
  refine ⟨a, b, xs, ys, rfl, rfl, SqT.of h1, SqT.of h2, small_le hl, fun e => ?_, fun _ e => absurd e hy, fun _ _ p n => k p _ (same_new n) upd_same⟩
  subst e
  exact k b H (Same.refl _) h2
theorem ok_look_all (B : Bk w K mg) {fd : FuncData} (F : FunD K "look_all" "look_all" (defArgs s_look_all) (defBody s_look_all) (defScope s_look_all) [] [] (He.ga K "look_all") fd) : FnOk P w K mg base C8.CX0 12 (He.ga K "look_all") fd ["looker", "room", "term", "spot"] (sp_look_ K (fun t n => (∃ a b, t = .all a b) ∧ n ≤ 12) (fun n => n ≤ 5)) := by
  refine fokD F sc_look_all (fun vs H Q E h => ?_) (fun cdv A outer s H vs Q E hr h => ?_)
  · obtain ⟨lk, g, rm, v, sp, o, ts, t, t', rfl, _⟩ := h
    rfl
  · obtain ⟨lk, g, rm, v, sp, o, ts, t, t', rfl, hlk, hg, hrm, ht, hsay, ⟨⟨a, b, rfl⟩, htl⟩, hsp, kq⟩ := h
    obtain ⟨⟨n, r, rfl, rfl, rfl⟩, rfl⟩ := hsay
    have hlk' := hlk
    obtain ⟨la, dx, rfl, ha⟩ := hlk'
    obtain ⟨p, x, y, rfl, hp, hx, hy⟩ := ht
    obtain ⟨sq, sxs, rfl, hsq, hsl⟩ := hsp
    have hrm' := hrm
    obtain ⟨l, xs, rfl, hl, hts⟩ := hrm'
    refine ⟨_, (pss_cons (ps_set (i := 4) sc_look_all.nd rfl (Or.inl rfl) (C8.pe_mt (ok_height0 B) hr (by decide) (pv 0) (pa_cons (pv 1) (pa_cons (pe_ix ix_tup (pv 2) pe_int (fun _ _ => rfl)) (pa_cons (pe_op op_catA (pv 3) (pe_tup (pa_cons pe_int pa_nil))) pa_nil)))))
      (pss_cons (ps_set (i := 5) sc_look_all.nd rfl (Or.inl rfl) (C8.pe_mt (ok_height0 B) hr (by decide) (pv 0) (pa_cons (pe_op op_cat (pv 1) (pe_lst (pa_cons (pe_ix ix_tup (pv 2) pe_int (fun _ _ => rfl)) pa_nil))) (pa_cons (pe_ix ix_tup (pv 2) pe_int (fun _ _ => rfl)) (pa_cons (pe_op op_catA (pv 3) (pe_tup (pa_cons pe_int pa_nil))) pa_nil)))))
      (pss_one (ps_ret (pe_tup (pa_cons pe_str (pa_cons (pe_callB (call_maxI rfl) (by rfl) (b_max B) (by decide +kernel) (pa_cons (pv 4) (pa_cons (pv 5) pa_nil))) pa_nil))))))), ?_⟩
    have hts2 := hts.len
    walk_at "rd"
    refine r_catA (K := K) (by walk_at "hp") upd_same (by walk_at "ar") (List.cons_ne_nil _ _) ?_
    walk_at "rd"
    refine q_height (ts := ts) (t := .name n) (h := 0) (by walk_at "tm") (by walk_at "tm") (by walk_at "tm") (by walk_at "tm") ⟨⟨r, rfl⟩, rfl⟩ trivial ⟨_, _, rfl, by walk_at "hp", trivial⟩ ?_
    walk_at "rd"
    refine r_catA (K := K) (by walk_at "hp") upd_same (by walk_at "ar") (List.cons_ne_nil _ _) ?_
    walk_at "rd"
    refine q_height (ts := ts ++ [.name n]) (t := .name n) (h := 0) (by walk_at "tm") (by walk_at "tm") ⟨_, _, rfl, by walk_at "hp", TsAll.app (hts.same (by walk_at "sm")) (by walk_at "tm")⟩ (by walk_at "tm") ⟨⟨r, rfl⟩, rfl⟩ trivial ⟨_, _, rfl, by walk_at "hp", trivial⟩ ?_
    walk_at "rd"
    exact kq _ _ (by walk_at "sm") ⟨_, rfl, upd_same⟩
end
section
variable {P : Program} {w : World} {K : PySem.W.Frag} {mg : Str → Option Value} {base : Heap}
/-- the whole: leaves, and a product of two names -/
def LkC (t : T) (n : Nat) : Prop := Lf t ∨ ((∃ a b, t = .all a b) ∧ n ≤ 12)
theorem ok_look1 (B : Bk w K mg) : C8.Met P w K mg base 13 (He.ga K "Looker") "look" (sp_look_ K LkC (fun n => n ≤ 5)) [] := by
  obtain ⟨fd, F⟩ := D_Looker_look B
  refine metD (c_Looker B) (m_Looker_look B) F sc_Looker_look (fun _ _ _ _ _ _ us hl => match us, hl with | [_, _, _, _], _ => rfl) (fun vs H Q E h => ?_) (fun cdv A outer s H vs Q E hr h => ?_)
  · obtain ⟨lk, g, rm, v, sp, o, ts, t, t', rfl, _⟩ := h
    rfl
  · obtain ⟨lk, g, rm, v, sp, o, ts, t, t', rfl, hlk, hg, hrm, ht, hsay, hC, hsp, kq⟩ := h
    have KD := LOOKS_at (w := w) B
    have hsp' : ∃ p xs, sp = .ref p ∧ H p = some (.tup xs) ∧ (fun _ => True) xs.length := by
      obtain ⟨p, xs, a, b, _⟩ := hsp
      exact ⟨p, xs, a, b, trivial⟩
    cases t with
    | at_ k =>
      obtain ⟨fd2, F2⟩ := D_look_at B
      obtain ⟨u, hN, hu⟩ := LOOKS_val B (q := ("at", .glo "look_at")) (List.mem_of_getElem? (i := 0) rfl)
      have ht' := ht
      obtain ⟨p, rfl, hp⟩ := ht'
      refine ⟨_, (pss_cons (ps_set (i := 4) sc_Looker_look.nd rfl (Or.inl rfl) (pe_ix ix_kdict (pe_glob (v := .ref (He.ga K "LOOKS")) (by rfl) (g_LOOKS B) rfl) (pe_ix ix_tup (pv 2) pe_int (fun _ _ => rfl)) (fun _ _ => rfl)))
        (pss_one (ps_ret (pe_callL (E := C8.E0) (i := 4) (dvs := []) (ok_look_at B F2) (hr.mono (by decide)) rfl (Or.inl rfl) F2.kp (F2.bindsN (fun _ _ _ _ _ _ us hl => match us, hl with | [_, _, _, _], _ => rfl)) .nil C8.pass0 (pa_cons (pv 0) (pa_cons (pv 1) (pa_cons (pv 2) (pa_cons (pv 3) pa_nil)))))))), ?_⟩
      walk_at "rd"
      exact q_look' hlk hg hrm ht hsay ⟨_, rfl⟩ hsp' (fun v' H' s' h' => kq _ _ (by walk_at "sm") h')
    | kind k =>
      obtain ⟨fd2, F2⟩ := D_look_kind B
      obtain ⟨u, hN, hu⟩ := LOOKS_val B (q := ("kind", .glo "look_kind")) (List.mem_of_getElem? (i := 1) rfl)
      have ht' := ht
      obtain ⟨p, rfl, hp⟩ := ht'
      refine ⟨_, (pss_cons (ps_set (i := 4) sc_Looker_look.nd rfl (Or.inl rfl) (pe_ix ix_kdict (pe_glob (v := .ref (He.ga K "LOOKS")) (by rfl) (g_LOOKS B) rfl) (pe_ix ix_tup (pv 2) pe_int (fun _ _ => rfl)) (fun _ _ => rfl)))
        (pss_one (ps_ret (pe_callL (E := C8.E0) (i := 4) (dvs := []) (ok_look_kind B F2) (hr.mono (by decide)) rfl (Or.inl rfl) F2.kp (F2.bindsN (fun _ _ _ _ _ _ us hl => match us, hl with | [_, _, _, _], _ => rfl)) .nil C8.pass0 (pa_cons (pv 0) (pa_cons (pv 1) (pa_cons (pv 2) (pa_cons (pv 3) pa_nil)))))))), ?_⟩
      walk_at "rd"
      exact q_look' hlk hg hrm ht hsay ⟨_, rfl⟩ hsp' (fun v' H' s' h' => kq _ _ (by walk_at "sm") h')
    | name k =>
      obtain ⟨fd2, F2⟩ := D_look_name B
      obtain ⟨u, hN, hu⟩ := LOOKS_val B (q := ("name", .glo "look_name")) (List.mem_of_getElem? (i := 3) rfl)
      have ht' := ht
      obtain ⟨p, rfl, hp⟩ := ht'
      refine ⟨_, (pss_cons (ps_set (i := 4) sc_Looker_look.nd rfl (Or.inl rfl) (pe_ix ix_kdict (pe_glob (v := .ref (He.ga K "LOOKS")) (by rfl) (g_LOOKS B) rfl) (pe_ix ix_tup (pv 2) pe_int (fun _ _ => rfl)) (fun _ _ => rfl)))
        (pss_one (ps_ret (pe_callL (E := C8.E0) (i := 4) (dvs := []) (ok_look_name B F2) (hr.mono (by decide)) rfl (Or.inl rfl) F2.kp (F2.bindsN (fun _ _ _ _ _ _ us hl => match us, hl with | [_, _, _, _], _ => rfl)) .nil C8.pass0 (pa_cons (pv 0) (pa_cons (pv 1) (pa_cons (pv 2) (pa_cons (pv 3) pa_nil)))))))), ?_⟩
      walk_at "rd"
      exact q_look' hlk hg hrm ht hsay ⟨_, rfl⟩ hsp' (fun v' H' s' h' => kq _ _ (by walk_at "sm") h')
    | all a b =>
      obtain ⟨fd2, F2⟩ := D_look_all B
      obtain ⟨u, hN, hu⟩ := LOOKS_val B (q := ("all", .glo "look_all")) (List.mem_of_getElem? (i := 2) rfl)
      have ht' := ht
      obtain ⟨p, x, y, rfl, hp, _, _⟩ := ht'
      refine ⟨_, (pss_cons (ps_set (i := 4) sc_Looker_look.nd rfl (Or.inl rfl) (pe_ix ix_kdict (pe_glob (v := .ref (He.ga K "LOOKS")) (by rfl) (g_LOOKS B) rfl) (pe_ix ix_tup (pv 2) pe_int (fun _ _ => rfl)) (fun _ _ => rfl)))
        (pss_one (ps_ret (pe_callL (E := C8.E0) (i := 4) (dvs := []) (ok_look_all B F2) (hr.mono (by decide)) rfl (Or.inl rfl) F2.kp (F2.bindsN (fun _ _ _ _ _ _ us hl => match us, hl with | [_, _, _, _], _ => rfl)) .nil C8.pass0 (pa_cons (pv 0) (pa_cons (pv 1) (pa_cons (pv 2) (pa_cons (pv 3) pa_nil)))))))), ?_⟩
      walk_at "rd"
      exact q_look' hlk hg hrm ht hsay ⟨⟨_, _, rfl⟩, hC.elim (fun z => z.elim) (fun z => z.2)⟩ hsp (fun v' H' s' h' => kq _ _ (by walk_at "sm") h')
    | _ => exact hsay.elim
def sp_told (K : PySem.W.Frag) : Sp := fun vs H Q _ => ∃ (g rm v : V) (o : Option (Str × V)) (ts : List T) (t t' : T), vs = [g, rm, v] ∧ Gr K H o g ∧ Rm H ts rm ∧ Tm H t v ∧ Says o ts t t' ∧ ts.length ≤ 12 ∧ ∀ v' H', Same H H' → Tm H' t' v' → Q v' H'
theorem q_told_s {H : Hp} {Q : VK} {E : XK} {g rm v : V} {o : Option (Str × V)} {ts : List T} {t t' : T} (h1 : Gr K H o g) (h2 : Rm H ts rm) (h3 : Tm H t v) (h4 : Says o ts t t') (h5 : ts.length ≤ 12) (k : ∀ v' H', Same H H' → Tm H' t' v' → Q v' H') : sp_told K ([g, rm, v] ++ []) H Q E := ⟨g, rm, v, o, ts, t, t', rfl, h1, h2, h3, h4, h5, k⟩
theorem q_mkLk {H : Hp} {R : Addr → Hp → Prop} {E : XK} {g : V} (k : ∀ a H', Same H H' → Lk K H' g (.ref a) → R a H') (x dx : Addr) (nx : H x = none) (nd : H dx = none) (ne : dx ≠ x) :
    sp_Looker_init K [.ref x, g] (upd (upd H dx (.own x)) x (.ins (He.ga K "Looker") dx [])) (fun v H2 => v = .non ∧ R x H2) E := by
  have s1 : Same H (upd (upd H dx (.own x)) x (.ins (He.ga K "Looker") dx [])) := (same_new nd).trans (same_new (by rw [upd_ne ne.symm]; exact nx))
  exact ⟨x, dx, g, rfl, upd_same, rfl, k _ _ (same_butx s1 nx but_upd) ⟨x, dx, rfl, upd_same⟩⟩
theorem sc_told_saying : FnScope ["ground", "room", "term"] ["ground", "room", "term"] (defScope s_told_saying) := ⟨rfl, rfl, rfl, by decide +kernel, rfl, by decide +kernel, by decide +kernel⟩
theorem ok_told_saying (B : Bk w K mg) : C8.Cal P w K mg base 14 "told_saying" (sp_told K) [] := by
  obtain ⟨fd, F⟩ := D_told_saying B
  refine calD F (g_told_saying B) sc_told_saying (fun _ _ _ _ _ _ us hl => match us, hl with | [_, _, _], _ => rfl) (fun vs H Q E h => ?_) (fun cdv A outer s H vs Q E hr h => ?_)
  · obtain ⟨g, rm, v, o, ts, t, t', rfl, _⟩ := h
    rfl
  · obtain ⟨g, rm, v, o, ts, t, t', rfl, hg, hrm, ht, hsay, htl, kq⟩ := h
    have hrm' := hrm
    obtain ⟨l, xs, rfl, hl, hts⟩ := hrm'
    refine ⟨_, (pss_one (ps_ret (C8.pe_mt (ok_look1 B) hr (by decide) (C8.pe_mk (mk_Looker B) hr (by decide) (by rfl) (pa_cons (pv 0) pa_nil)) (pa_cons (pe_callTy call_listOf (by rfl) (b_list B) (by decide +kernel) (pa_cons (pv 1) pa_nil)) (pa_cons (pv 2) (pa_cons (pe_tup pa_nil) pa_nil)))))), ?_⟩
    walk_at "rd"
    refine r_make ?_
    walk_at "rd"
    refine q_mkLk (K := K) (g := g) (fun a H1 s1 hlk => ?_)
    have hlk' := hlk
    obtain ⟨a', dx, e, ha⟩ := hlk'
    cases e
    walk_at "rd"
    have hC : LkC t ts.length := by
      cases t with
      | at_ k => exact .inl trivial
      | kind k => exact .inl trivial
      | name k => exact .inl trivial
      | all a b => exact .inr ⟨⟨a, b, rfl⟩, htl⟩
      | _ => exact hsay.elim
    refine q_look (g := g) (ts := ts) (t := t) (by walk_at "tm") (by walk_at "tm") ⟨_, xs, rfl, by walk_at "hp", hts.same (by walk_at "sm")⟩ (by walk_at "tm") hsay hC ⟨_, [], rfl, upd_same, Nat.zero_le _⟩ (fun v' H' s' h' => ?_)
    walk_at "rd"
    exact kq _ _ (by walk_at "sm") h'
/-- no fault of a term's kind -/
def sp_kind_fault (K : PySem.W.Frag) : Sp := fun vs H Q _ => ∃ (g rm v : V) (o : Option (Str × V)) (ts : List T) (t : T) (h : Nat), vs = [g, rm, v] ∧ Gr K H o g ∧ Rm H ts rm ∧ Tm H t v ∧ Says o ts t (.kind h) ∧ ts.length ≤ 12 ∧ ∀ H', Same H H' → Q .non H'
theorem q_kind_fault {H : Hp} {Q : VK} {E : XK} {g rm v : V} {o : Option (Str × V)} {ts : List T} {t : T} {h : Nat} (h1 : Gr K H o g) (h2 : Rm H ts rm) (h3 : Tm H t v) (h4 : Says o ts t (.kind h)) (h5 : ts.length ≤ 12) (k : ∀ H', Same H H' → Q .non H') : sp_kind_fault K ([g, rm, v] ++ []) H Q E := ⟨g, rm, v, o, ts, t, h, rfl, h1, h2, h3, h4, h5, k⟩
theorem sc_kind_fault : FnScope ["ground", "room", "term", "saying", "e"] ["ground", "room", "term"] (defScope s_kind_fault) := ⟨rfl, rfl, rfl, by decide +kernel, rfl, by decide +kernel, by decide +kernel⟩
theorem ok_kind_fault (B : Bk w K mg) : C8.Cal P w K mg base 15 "kind_fault" (sp_kind_fault K) [] := by
  obtain ⟨fd, F⟩ := D_kind_fault B
  refine calD F (g_kind_fault B) sc_kind_fault (fun _ _ _ _ _ _ us hl => match us, hl with | [_, _, _], _ => rfl) (fun vs H Q E h => ?_) (fun cdv A outer s H vs Q E hr h => ?_)
  · obtain ⟨g, rm, v, o, ts, t, n, rfl, _⟩ := h
    rfl
  · obtain ⟨g, rm, v, o, ts, t, n, rfl, hg, hrm, ht, hsay, htl, kq⟩ := h
    refine ⟨_, (pss_cons (ps_try_thru0 (pss_one (ps_set (i := 3) sc_kind_fault.nd rfl (Or.inl rfl) (C8.pe_c (ok_told_saying B) hr (by decide) (by rfl) (pa_cons (pv 0) (pa_cons (pv 1) (pa_cons (pv 2) pa_nil)))))))
      (pss_one (ps_ret (pe_ifExp (pt_cmpR op_eq (pe_ix ix_tup (pv 3) pe_int (fun _ _ => rfl)) pe_str (nomark _)) pe_non (pe_tup (pa_cons (pe_tup pa_nil) (pa_cons pe_str pa_nil))))))), ?_⟩
    walk_at "rd"
    refine q_told_s hg hrm ht hsay htl (fun v' H' s' h' => ?_)
    obtain ⟨p, rfl, hp⟩ := h'
    walk_at "rd"
    exact kq _ (by walk_at "sm")
end
section
variable {P : Program} {w : World} {K : PySem.W.Frag} {mg : Str → Option Value} {base : Heap}
theorem TsAll.take {H : Hp} : ∀ {ts : List T} {vs : List V} (i : Nat), TsAll H ts vs → TsAll H (ts.take i) (vs.take i)
  | _, _, 0, _ => by simp only [List.take_zero]; trivial
  | [], [], _ + 1, _ => trivial
  | _ :: _, _ :: _, i + 1, ⟨a, b⟩ => ⟨a, b.take i⟩
theorem TsAll.get2 {H : Hp} : ∀ {ts : List T} {vs : List V}, TsAll H ts vs → ∀ {i : Nat} {v : V}, vs[i]? = some v → ∃ t, ts[i]? = some t ∧ Tm H t v
  | [], [], _, _, _, e => by simp at e
  | _ :: _, _ :: _, ⟨a, _⟩, 0, _, e => by
    cases e
    exact ⟨_, rfl, a⟩
  | _ :: _, _ :: _, ⟨_, b⟩, i + 1, _, e => b.get2 (by simpa using e)
theorem cutTo (xs : List V) {i : Nat} (hi : i ≤ xs.length) : cutV xs none (some (i : Int)) = xs.take i := by
  have e : HT.sIx xs.length xs.length (some (i : Int)) = i := by
    rw [HT.sIx_nat]
    omega
  unfold cutV
  rw [e, HT.sIx_none]
  simp
section
variable {H : Hp} {Q : VK} {E : XK}
theorem r_slLto {a : Addr} {xs : List V} {i : Nat} (hp : SqL K H a xs) (hi : i < xs.length) (k : ∀ p, H p = none → Q (.ref p) (upd H p (.lst (xs.take i)))) : rSlL K (.ref a) none (some (i : Int)) H Q :=
  ⟨a, xs, rfl, hp, by rw [cutTo xs (Nat.le_of_lt hi)]; exact k⟩
theorem r_slTto {a : Addr} {xs : List V} {i : Nat} (hp : SqT K H a xs) (hi : i < xs.length) (k : ∀ p, H p = none → Q (.ref p) (upd H p (.tup (xs.take i)))) : rSlT K (.ref a) none (some (i : Int)) H Q :=
  ⟨a, xs, rfl, hp, fun z => by
    have e := z.2
    rw [HT.sIx_nat] at e
    omega, by rw [cutTo xs (Nat.le_of_lt hi)]; exact k⟩
/-- a room of kinds: a list, or a tuple -/
def rmO : Bool → List V → HO
  | true, vs => .tup vs
  | false, vs => .lst vs
def RmK (b : Bool) (H : Hp) (ts : List T) (v : V) : Prop := ∃ l vs, v = .ref l ∧ H l = some (rmO b vs) ∧ TsAll H ts vs ∧ (∀ t ∈ ts, ∃ h, t = .kind h ∧ h < 5) ∧ ts.length ≤ 3
theorem RmK.same {b : Bool} {H H' : Hp} (s : Same H H') {ts : List T} {v : V} (h : RmK b H ts v) : RmK b H' ts v := by
  obtain ⟨l, vs, e, a, c, d⟩ := h
  exact ⟨l, vs, e, s _ _ a, c.same s, d⟩
def sp_room_fault (K : PySem.W.Frag) (b : Bool) : Sp := fun vs H Q _ => ∃ (g rm : V) (o : Option (Str × V)) (ts : List T), vs = [g, rm] ∧ Gr K H o g ∧ RmK b H ts rm ∧ ∀ H', Same H H' → Q .non H'
theorem q_room_fault {b : Bool} {g rm : V} {o : Option (Str × V)} {ts : List T} (h1 : Gr K H o g) (h2 : RmK b H ts rm) (k : ∀ H', Same H H' → Q .non H') : sp_room_fault K b ([g, rm] ++ []) H Q E := ⟨g, rm, o, ts, rfl, h1, h2, k⟩
def sp_need_room (b : Bool) : Sp := fun vs H Q _ => ∃ (rm : V) (ts : List T), vs = [rm] ∧ RmK b H ts rm ∧ ∀ H', Same H H' → Q .non H'
theorem q_need_room {b : Bool} {rm : V} {ts : List T} (h2 : RmK b H ts rm) (k : ∀ H', Same H H' → Q .non H') : sp_need_room b ([rm] ++ []) H Q E := ⟨rm, ts, rfl, h2, k⟩
def sp_need_goal (K : PySem.W.Frag) (b : Bool) : Sp := fun vs H Q _ => ∃ (g rm v : V) (n : Str) (r : V) (ts : List T) (t : T) (h : Nat), vs = [g, rm, v] ∧ Gr K H (some (n, r)) g ∧ RmK b H ts rm ∧ Tm H t v ∧ Says (some (n, r)) ts t (.kind h) ∧ ∀ H', Same H H' → Q .non H'
theorem q_need_goal {b : Bool} {g rm v : V} {n : Str} {r : V} {ts : List T} {t : T} {h : Nat} (h1 : Gr K H (some (n, r)) g) (h2 : RmK b H ts rm) (h3 : Tm H t v) (h4 : Says (some (n, r)) ts t (.kind h)) (k : ∀ H', Same H H' → Q .non H') : sp_need_goal K b ([g, rm, v] ++ []) H Q E := ⟨g, rm, v, n, r, ts, t, h, rfl, h1, h2, h3, h4, k⟩
end
theorem enT_eq {a : Addr} {xs : List V} {i : Nat} {x : V} {H H' : Hp} (h : (Ren.IteT K a).yld i H x H') (hl : SqT K H a xs) : ∃ t y, x = .ref t ∧ H t = none ∧ H' = upd H t (.tup [.int (i : Nat), y]) ∧ xs[i]? = some y := by
  obtain ⟨t, y, e1, e2, e3, e4⟩ := h
  exact ⟨t, y, e1, e2, e3, e4 xs hl⟩
theorem r_iEnumT {ta : TA} {σ : L2.St} {H : Hp} {R : It → Hp → Prop} (h : ta σ H fun vs H1 => ∃ a xs, vs = [.ref a] ∧ SqT K H1 a xs ∧ R (Ren.IteT K a) H1) : Ren.iEnumT K ta σ H R := h
theorem sc_room_fault : FnScope ["ground", "room", "number", "part", "fault"] ["ground", "room"] (defScope s_room_fault) := ⟨rfl, rfl, rfl, by decide +kernel, rfl, by decide +kernel, by decide +kernel⟩
theorem sc_need_room : FnScope ["room", "part"] ["room"] (defScope s_need_room) := ⟨rfl, rfl, rfl, by decide +kernel, rfl, by decide +kernel, by decide +kernel⟩
theorem ok_room_faultL (B : Bk w K mg) : C8.Cal P w K mg base 16 "room_fault" (sp_room_fault K false) [] := by
  obtain ⟨fd, F⟩ := D_room_fault B
  refine calD F (g_room_fault B) sc_room_fault (fun _ _ _ _ _ _ us hl => match us, hl with | [_, _], _ => rfl) (fun vs H Q E h => ?_) (fun cdv A outer s H vs Q E hr h => ?_)
  · obtain ⟨g, rm, o, ts, rfl, _⟩ := h
    rfl
  · obtain ⟨g, rm, o, ts, rfl, hg, hrm, kq⟩ := h
    obtain ⟨l, xs, rfl, hl, hts, hk, htl⟩ := hrm
    have hl : H l = some (.lst xs) := hl
    have hlen := hts.len
    refine ⟨_, (pss_cons (ps_for PassesOwn.never rfl (pi_enum (by rfl) (b_enumerate B) (pa_cons (pv 1) pa_nil)) (pg_tup2 (K0 := K) rfl (i := 2) (j := 3) rfl sc_room_fault.nd rfl rfl (Or.inl rfl) (Or.inl rfl) (Or.inl rfl) (Or.inl rfl)) (pss_cons (ps_set (i := 4) sc_room_fault.nd rfl (Or.inl rfl) (C8.pe_c (ok_kind_fault B) hr (by decide) (by rfl) (pa_cons (pv 0) (pa_cons (pe_callTy call_listOf (by rfl) (b_list B) (by decide +kernel) (pa_cons (pe_slice sl_list (pv 1) po_none (po_some (pv 2))) pa_nil)) (pa_cons (pv 3) pa_nil)))))
      (pss_one (ps_if (pt_cmpR op_notNo (pv 4) pe_non (nomark _)) (pss_one ps_never) pss_nil))))
      (pss_one (ps_ret pe_non))), ?_⟩
    walk_at "rd"
    refine ⟨_, _, rfl, SqL.of hl, for_go xs.length (fun i σ' H' => Same H H' ∧ ∃ c d e, σ' = [some g, some (.ref l), c, d, e]) ⟨Same.refl _, _, _, _, rfl⟩ (fun i _ H' hi s' => ?_) (fun _ H' s' => ⟨xs, by have := s'.1; walk_at "hp", Nat.le_refl _⟩) (fun i σ' z H2 H3 hi s' hy' => ?_) (fun σ' H' s' => ?_)⟩
    · have s2 := s'.1
      exact ⟨xs, xs[i], by walk_at "hp", List.getElem?_eq_getElem hi⟩
    · obtain ⟨s2, c, d, e, rfl⟩ := s'
      have hL' : SqL K H2 l xs := by walk_at "hp"
      obtain ⟨t, u, rfl, nt, rfl, hu⟩ := ite_eq hy' hL'
      obtain ⟨tt, htt, hut⟩ := hts.get2 hu
      obtain ⟨hh, rfl, hh5⟩ := hk _ (List.mem_of_getElem? htt)
      walk_at "rd"
      refine r_slLto (K := K) (by walk_at "hp") hi ?_
      walk_at "rd"
      refine q_kind_fault (o := o) (ts := ts.take i) (t := .kind hh) (h := hh + 1) (by walk_at "tm") ⟨_, xs.take i, rfl, by walk_at "hp", (hts.take i).same (by walk_at "sm")⟩ (by walk_at "tm") ⟨hh5, rfl⟩ (by rw [List.length_take]; omega) ?_
      walk_at "rd"
      exact ⟨by walk_at "sm", _, _, _, rfl⟩
    · obtain ⟨s2, c, d, e, rfl⟩ := s'
      walk_at "rd"
      exact kq _ (by walk_at "sm")
theorem ok_need_roomL (B : Bk w K mg) : C8.Cal P w K mg base 6 "need_room" (sp_need_room false) [] := by
  obtain ⟨fd, F⟩ := D_need_room B
  refine calD F (g_need_room B) sc_need_room (fun _ _ _ _ _ _ us hl => match us, hl with | [_], _ => rfl) (fun vs H Q E h => ?_) (fun cdv A outer s H vs Q E hr h => ?_)
  · obtain ⟨rm, ts, rfl, _⟩ := h
    rfl
  · obtain ⟨rm, ts, rfl, hrm, kq⟩ := h
    obtain ⟨l, xs, rfl, hl, hts, hk, htl⟩ := hrm
    have hl : H l = some (.lst xs) := hl
    have hlen := hts.len
    refine ⟨_, (pss_one (ps_if (PW.pt (pw_or (pt_not (pt_val (pe_callB call_isiT (by rfl) (b_isinstance B) (by decide +kernel) (pa_cons (pv 0) (pa_cons (pe_tup (pa_cons (pe_bltn (v := .ty "list") (by rfl) (b_list B) (by decide +kernel) rfl) (pa_cons (pe_bltn (v := .ty "tuple") (by rfl) (b_tuple B) (by decide +kernel) rfl) pa_nil))) pa_nil))))) (pw_or (pt_cmpR op_gt (pe_callB call_lenQ (by rfl) (b_len B) (by decide +kernel) (pa_cons (pv 0) pa_nil)) (pe_gi (i_MOST_ROOM B)) (nomark _)) (pw_or1 (pt_not (pt_val (pe_callB (cr_all rfl) (by rfl) (b_all B) (by decide +kernel) (pa_cons (pe_lc (own := [("part", 1)]) (tt := tYes) rfl sc_need_room.nd (pi_list (pv 0)) (blkOk_by (N := ["room", "part"]) (sc := defScope s_need_room) (by decide +kernel)) (fun _ _ _ _ _ => (pg_name (i := 1) sc_need_room.nd rfl (Or.inl rfl))) (fun _ _ _ _ _ => pts_nil) (fun _ _ _ _ _ => (C8.pe_c (ok_is_term B 2) hr (by decide) (by rfl) (pa_cons (pv 1) pa_nil)))) pa_nil)))))))) (pss_one ps_never) pss_nil)), ?_⟩
    walk_at "rd"
    rename_i tp ntp
    refine ⟨⟨xs, by walk_at "hp"⟩, ?_⟩
    refine lc_map xs.length (small_le (by omega)) (fun _ y _ => y = .bl true) (fun _ _ _ _ e _ => e) (fun i H' hi s' => ⟨xs, xs[i], by walk_at "hp", List.getElem?_eq_getElem hi⟩) (fun H' s' => ⟨xs, by walk_at "hp", Nat.le_refl _⟩) (fun i y H1 H2 R hi s1 hy hR => ?_) (fun L ys H' nl s2 hL hlen2 hall => ?_)
    · obtain ⟨rfl, hu⟩ := hy
      have hu := hu xs (by walk_at "hp")
      obtain ⟨tt, htt, hut⟩ := hts.get2 hu
      obtain ⟨hh, rfl, hh5⟩ := hk _ (List.mem_of_getElem? htt)
      walk_at "rd"
      refine ⟨rfl, ?_⟩
      walk_at "rd"
      refine q_is_term (hut.same (by walk_at "sm")) (show hh ≤ 5 by omega) (show 0 < 2 by decide) ?_
      walk_at "rd"
      exact hR _ _ (by walk_at "sm") rfl
    · walk_at "rd"
      refine r_allT hL hall ?_
      walk_at "rd"
      exact kq _ (by walk_at "sm")
theorem ok_room_faultT (B : Bk w K mg) : C8.Cal P w K mg base 16 "room_fault" (sp_room_fault K true) [] := by
  obtain ⟨fd, F⟩ := D_room_fault B
  refine calD F (g_room_fault B) sc_room_fault (fun _ _ _ _ _ _ us hl => match us, hl with | [_, _], _ => rfl) (fun vs H Q E h => ?_) (fun cdv A outer s H vs Q E hr h => ?_)
  · obtain ⟨g, rm, o, ts, rfl, _⟩ := h
    rfl
  · obtain ⟨g, rm, o, ts, rfl, hg, hrm, kq⟩ := h
    obtain ⟨l, xs, rfl, hl, hts, hk, htl⟩ := hrm
    have hl : H l = some (.tup xs) := hl
    have hlen := hts.len
    refine ⟨_, (pss_cons (ps_for PassesOwn.never rfl (Ren.pi_enumT (by rfl) (b_enumerate B) (pa_cons (pv 1) pa_nil)) (pg_tup2 (K0 := K) rfl (i := 2) (j := 3) rfl sc_room_fault.nd rfl rfl (Or.inl rfl) (Or.inl rfl) (Or.inl rfl) (Or.inl rfl)) (pss_cons (ps_set (i := 4) sc_room_fault.nd rfl (Or.inl rfl) (C8.pe_c (ok_kind_fault B) hr (by decide) (by rfl) (pa_cons (pv 0) (pa_cons (pe_callTy call_listOf (by rfl) (b_list B) (by decide +kernel) (pa_cons (pe_slice sl_tup (pv 1) po_none (po_some (pv 2))) pa_nil)) (pa_cons (pv 3) pa_nil)))))
      (pss_one (ps_if (pt_cmpR op_notNo (pv 4) pe_non (nomark _)) (pss_one ps_never) pss_nil))))
      (pss_one (ps_ret pe_non))), ?_⟩
    walk_at "rd"
    refine r_iEnumT (K := K) ?_
    walk_at "rd"
    refine ⟨_, _, rfl, SqT.of hl, for_go xs.length (fun i σ' H' => Same H H' ∧ ∃ c d e, σ' = [some g, some (.ref l), c, d, e]) ⟨Same.refl _, _, _, _, rfl⟩ (fun i _ H' hi s' => ?_) (fun _ H' s' => ⟨xs, by have := s'.1; walk_at "hp", rfl⟩) (fun i σ' z H2 H3 hi s' hy' => ?_) (fun σ' H' s' => ?_)⟩
    · have s2 := s'.1
      exact ⟨xs, xs[i], by walk_at "hp", List.getElem?_eq_getElem hi⟩
    · obtain ⟨s2, c, d, e, rfl⟩ := s'
      have hL' : SqT K H2 l xs := by walk_at "hp"
      obtain ⟨t, u, rfl, nt, rfl, hu⟩ := enT_eq hy' hL'
      obtain ⟨tt, htt, hut⟩ := hts.get2 hu
      obtain ⟨hh, rfl, hh5⟩ := hk _ (List.mem_of_getElem? htt)
      walk_at "rd"
      refine r_slTto (K := K) (by walk_at "hp") hi ?_
      walk_at "rd"
      refine q_kind_fault (o := o) (ts := ts.take i) (t := .kind hh) (h := hh + 1) (by walk_at "tm") ⟨_, xs.take i, rfl, by walk_at "hp", (hts.take i).same (by walk_at "sm")⟩ (by walk_at "tm") ⟨hh5, rfl⟩ (by rw [List.length_take]; omega) ?_
      walk_at "rd"
      exact ⟨by walk_at "sm", _, _, _, rfl⟩
    · obtain ⟨s2, c, d, e, rfl⟩ := s'
      walk_at "rd"
      exact kq _ (by walk_at "sm")
theorem ok_need_roomT (B : Bk w K mg) : C8.Cal P w K mg base 6 "need_room" (sp_need_room true) [] := by
  obtain ⟨fd, F⟩ := D_need_room B
  refine calD F (g_need_room B) sc_need_room (fun _ _ _ _ _ _ us hl => match us, hl with | [_], _ => rfl) (fun vs H Q E h => ?_) (fun cdv A outer s H vs Q E hr h => ?_)
  · obtain ⟨rm, ts, rfl, _⟩ := h
    rfl
  · obtain ⟨rm, ts, rfl, hrm, kq⟩ := h
    obtain ⟨l, xs, rfl, hl, hts, hk, htl⟩ := hrm
    have hl : H l = some (.tup xs) := hl
    have hlen := hts.len
    refine ⟨_, (pss_one (ps_if (PW.pt (pw_or (pt_not (pt_val (pe_callB call_isiT (by rfl) (b_isinstance B) (by decide +kernel) (pa_cons (pv 0) (pa_cons (pe_tup (pa_cons (pe_bltn (v := .ty "list") (by rfl) (b_list B) (by decide +kernel) rfl) (pa_cons (pe_bltn (v := .ty "tuple") (by rfl) (b_tuple B) (by decide +kernel) rfl) pa_nil))) pa_nil))))) (pw_or (pt_cmpR op_gt (pe_callB call_lenQ (by rfl) (b_len B) (by decide +kernel) (pa_cons (pv 0) pa_nil)) (pe_gi (i_MOST_ROOM B)) (nomark _)) (pw_or1 (pt_not (pt_val (pe_callB (cr_all rfl) (by rfl) (b_all B) (by decide +kernel) (pa_cons (pe_lc (own := [("part", 1)]) (tt := tYes) rfl sc_need_room.nd (pi_tup (pv 0)) (blkOk_by (N := ["room", "part"]) (sc := defScope s_need_room) (by decide +kernel)) (fun _ _ _ _ _ => (pg_name (i := 1) sc_need_room.nd rfl (Or.inl rfl))) (fun _ _ _ _ _ => pts_nil) (fun _ _ _ _ _ => (C8.pe_c (ok_is_term B 2) hr (by decide) (by rfl) (pa_cons (pv 1) pa_nil)))) pa_nil)))))))) (pss_one ps_never) pss_nil)), ?_⟩
    walk_at "rd"
    rename_i tp ntp
    refine ⟨⟨xs, by walk_at "hp"⟩, ?_⟩
    refine lc_map xs.length (small_le (by omega)) (fun _ y _ => y = .bl true) (fun _ _ _ _ e _ => e) (fun i H' hi s' => ⟨xs, xs[i], by walk_at "hp", List.getElem?_eq_getElem hi⟩) (fun H' s' => ⟨xs, by walk_at "hp", Nat.le_refl _⟩) (fun i y H1 H2 R hi s1 hy hR => ?_) (fun L ys H' nl s2 hL hlen2 hall => ?_)
    · obtain ⟨rfl, hu⟩ := hy
      have hu := hu xs (by walk_at "hp")
      obtain ⟨tt, htt, hut⟩ := hts.get2 hu
      obtain ⟨hh, rfl, hh5⟩ := hk _ (List.mem_of_getElem? htt)
      walk_at "rd"
      refine ⟨rfl, ?_⟩
      walk_at "rd"
      refine q_is_term (hut.same (by walk_at "sm")) (show hh ≤ 5 by omega) (show 0 < 2 by decide) ?_
      walk_at "rd"
      exact hR _ _ (by walk_at "sm") rfl
    · walk_at "rd"
      refine r_allT hL hall ?_
      walk_at "rd"
      exact kq _ (by walk_at "sm")
end
section
variable {P : Program} {w : World} {K : PySem.W.Frag} {mg : Str → Option Value} {base : Heap}
theorem pe_mk0 {X : Cx} {x : Str} {C : Addr} {sp : Sp} {dvs : List V} {k j : Nat} {p pos : Pos} (c : C8.Mak X.prog X.w X.K X.mg X.base k x C sp dvs) (hr : Room j X.A) (hk : k + 1 ≤ j) (hg : Gl X x) (hdb : (x == ("__debug__" : Str)) = false := by decide) :
    PE X (.Call (.Name x p) [] [] pos) (tMake C sp dvs C8.E0 tNil) := by
  obtain ⟨f, fd, ps, ds, M, F, hm, b, d⟩ := c.ex
  exact pe_make0 M F (hr.mono hk) hg hm b d C8.pass0 hdb
theorem q_mkGr' {H : Hp} {R : Addr → Hp → Prop} {E : XK} {a : V} {o : Option (Str × V)} (ha : (a = .non ∧ o = none) ∨ ∃ l, a = .ref l ∧ H l = some (.lst (gRows o)) ∧ (∀ r, o = some r → RowOk K H r.1 r.2)) (k : ∀ g H', Same H H' → Gr K H' o (.ref g) → R g H') (x dx : Addr) (nx : H x = none) (nd : H dx = none) (ne : dx ≠ x) :
    sp_Ground_init K [.ref x, a] (upd (upd H dx (.own x)) x (.ins (He.ga K "Ground") dx [])) (fun v H2 => v = .non ∧ R x H2) E := by
  have s1 : Same H (upd (upd H dx (.own x)) x (.ins (He.ga K "Ground") dx [])) := (same_new nd).trans (same_new (by rw [upd_ne ne.symm]; exact nx))
  refine ⟨x, dx, a, o, rfl, upd_same, ?_, fun H' b hg => ⟨rfl, k _ H' (same_butx s1 nx b) hg⟩⟩
  rcases ha with ha | ⟨l, e, hl, hr⟩
  · exact .inl ha
  · exact .inr ⟨l, e, s1 _ _ hl, fun r e => (hr r e).same s1⟩
def sp_row_fault (K : PySem.W.Frag) : Sp := fun vs H Q _ => ∃ (g r : V) (n : Str), vs = [g, r] ∧ Gr K H none g ∧ RowOk K H n r ∧ ∀ H', Same H H' → Q .non H'
theorem q_row_fault {H : Hp} {Q : VK} {E : XK} {g r : V} {n : Str} (h1 : Gr K H none g) (h2 : RowOk K H n r) (k : ∀ H', Same H H' → Q .non H') : sp_row_fault K ([g, r] ++ []) H Q E := ⟨g, r, n, rfl, h1, h2, k⟩
theorem sc_row_fault : FnScope ["ground", "row", "fault"] ["ground", "row"] (defScope s_row_fault) := ⟨rfl, rfl, rfl, by decide +kernel, rfl, by decide +kernel, by decide +kernel⟩
theorem ok_row_fault (B : Bk w K mg) : C8.Cal P w K mg base 16 "row_fault" (sp_row_fault K) [] := by
  obtain ⟨fd, F⟩ := D_row_fault B
  refine calD F (g_row_fault B) sc_row_fault (fun _ _ _ _ _ _ us hl => match us, hl with | [_, _], _ => rfl) (fun vs H Q E h => ?_) (fun cdv A outer s H vs Q E hr h => ?_)
  · obtain ⟨g, r, n, rfl, _⟩ := h
    rfl
  · obtain ⟨g, r, n, rfl, hg, hw, kq⟩ := h
    obtain ⟨p, k, rfl, hp, hk, _⟩ := hw
    refine ⟨_, (pss_cons (ps_if (pt_cmpR op_eq (pe_ix ix_tup (pv 1) pe_int (fun _ _ => rfl)) pe_str (nomark _)) (pss_one ps_never) pss_nil)
      (pss_cons (ps_set (i := 2) sc_row_fault.nd rfl (Or.inl rfl) (C8.pe_c (ok_kind_fault B) hr (by decide) (by rfl) (pa_cons (pv 0) (pa_cons (pe_lst pa_nil) (pa_cons (pe_ix ix_tup (pv 1) pe_int (fun _ _ => rfl)) pa_nil)))))
      (pss_cons (ps_if (pt_cmpR op_notNo (pv 2) pe_non (nomark _)) (pss_one ps_never) pss_nil)
      (pss_cons (ps_if (pt_cmpR op_eq (pe_ix ix_tup (pv 1) pe_int (fun _ _ => rfl)) pe_str (nomark _)) (pss_one (ps_ret pe_non)) pss_nil)
      (pss_cons ps_never
      (pss_one ps_never)))))), ?_⟩
    walk_at "rd"
    refine q_kind_fault (o := none) (ts := []) (t := .kind 0) (h := 1) (by walk_at "tm") ⟨_, [], rfl, upd_same, trivial⟩ (by walk_at "tm") ⟨by decide, rfl⟩ (Nat.zero_le _) ?_
    walk_at "rd"
    exact kq _ (by walk_at "sm")
def sp_ground_fault (K : PySem.W.Frag) : Sp := fun vs H Q _ => ∃ (g r : V) (n : Str), vs = [g] ∧ Gr K H (some (n, r)) g ∧ ∀ H', Same H H' → Q .non H'
theorem q_ground_fault {H : Hp} {Q : VK} {E : XK} {g r : V} {n : Str} (h1 : Gr K H (some (n, r)) g) (k : ∀ H', Same H H' → Q .non H') : sp_ground_fault K ([g] ++ []) H Q E := ⟨g, r, n, rfl, h1, k⟩
theorem q_rows {H : Hp} {Q : VK} {E : XK} {g : V} {o : Option (Str × V)} (h : Gr K H o g) (k : ∀ L H', Same H H' → H' L = some (.lst (gRows o)) → Q (.ref L) H') : sp_Ground_rows K (g :: ([] ++ [])) H Q E := ⟨g, o, rfl, h, k⟩
theorem sc_ground_fault : FnScope ["ground", "ahead", "number", "row", "fault"] ["ground"] (defScope s_ground_fault) := ⟨rfl, rfl, rfl, by decide +kernel, rfl, by decide +kernel, by decide +kernel⟩
theorem ok_ground_fault (B : Bk w K mg) : C8.Cal P w K mg base 17 "ground_fault" (sp_ground_fault K) [] := by
  obtain ⟨fd, F⟩ := D_ground_fault B
  refine calD F (g_ground_fault B) sc_ground_fault (fun _ _ _ _ _ _ us hl => match us, hl with | [_], _ => rfl) (fun vs H Q E h => ?_) (fun cdv A outer s H vs Q E hr h => ?_)
  · obtain ⟨g, r, n, rfl, _⟩ := h
    rfl
  · obtain ⟨g, r, n, rfl, hg, kq⟩ := h
    refine ⟨_, (pss_cons (ps_set (i := 1) sc_ground_fault.nd rfl (Or.inl rfl) (pe_mk0 (mk_Ground0 B) hr (by decide) (by rfl)))
      (pss_cons (ps_for PassesOwn.never rfl (pi_enum (by rfl) (b_enumerate B) (pa_cons (C8.pe_mt0 (ok_Ground_rows B) hr (by decide) (pv 0)) pa_nil)) (pg_tup2 (K0 := K) rfl (i := 2) (j := 3) rfl sc_ground_fault.nd rfl rfl (Or.inl rfl) (Or.inl rfl) (Or.inl rfl) (Or.inl rfl)) (pss_cons (ps_set (i := 4) sc_ground_fault.nd rfl (Or.inl rfl) (C8.pe_c (ok_row_fault B) hr (by decide) (by rfl) (pa_cons (pv 1) (pa_cons (pv 3) pa_nil))))
      (pss_cons (ps_if (pt_cmpR op_notNo (pv 4) pe_non (nomark _)) (pss_one ps_never) pss_nil)
      (pss_one (ps_set (i := 1) sc_ground_fault.nd rfl (Or.inl rfl) (C8.pe_mt (ok_Ground_with_row B) hr (by decide) (pv 1) (pa_cons (pv 3) pa_nil)))))))
      (pss_one (ps_ret pe_non)))), ?_⟩
    walk_at "rd"
    refine r_make ?_
    walk_at "rd"
    refine q_mkGr' (K := K) (o := none) (.inl ⟨rfl, rfl⟩) (fun g2 H1 s1 hg2 => ?_)
    walk_at "rd"
    refine q_rows (K := K) (o := some (n, r)) (by walk_at "tm") ?_
    walk_at "rd"
    rename_i L H2 s2 hL
    refine ⟨_, _, rfl, SqL.of hL, for_go 1 (fun i σ' H' => Same H2 H' ∧ ∃ a c d e, σ' = [some g, some a, c, d, e] ∧ (i = 0 → Gr K H' none a)) ⟨Same.refl _, _, _, _, _, rfl, fun _ => hg2.same s2⟩ (fun i _ H' hi s' => ?_) (fun _ H' s' => ⟨[r], by have := s'.1; walk_at "hp", Nat.le_refl _⟩) (fun i σ' z H3 H4 hi s' hy' => ?_) (fun σ' H' s' => ?_)⟩
    · have s2 := s'.1
      obtain rfl : i = 0 := by omega
      exact ⟨[r], r, by walk_at "hp", rfl⟩
    · obtain rfl : i = 0 := by omega
      obtain ⟨s3, a, c, d, e, rfl, ga⟩ := s'
      have ga := ga rfl
      have hL' : SqL K H3 L [r] := by walk_at "hp"
      obtain ⟨t, u, rfl, nt, rfl, hu⟩ := ite_eq hy' hL'
      cases hu
      have rk := hg.row.same (s1.trans (s2.trans s3))
      walk_at "rd"
      refine q_row_fault (K := K) (by walk_at "tm") (by walk_at "tm") ?_
      walk_at "rd"
      refine q_with_row (K := K) (n := n) (by walk_at "tm") (by walk_at "tm") (fun g3 H5 s5 hg3 => ?_)
      walk_at "rd"
      exact ⟨by walk_at "sm", _, _, _, _, rfl, fun z => absurd z (by decide)⟩
    · obtain ⟨s3, a, c, d, e, rfl, ga⟩ := s'
      walk_at "rd"
      exact kq _ (by walk_at "sm")
theorem sc_need_goal : FnScope ["ground", "room", "saying", "fault"] ["ground", "room", "saying"] (defScope s_need_goal) := ⟨rfl, rfl, rfl, by decide +kernel, rfl, by decide +kernel, by decide +kernel⟩
theorem ok_need_goalL (B : Bk w K mg) : C8.Cal P w K mg base 18 "need_goal" (sp_need_goal K false) [] := by
  obtain ⟨fd, F⟩ := D_need_goal B
  refine calD F (g_need_goal B) sc_need_goal (fun _ _ _ _ _ _ us hl => match us, hl with | [_, _, _], _ => rfl) (fun vs H Q E h => ?_) (fun cdv A outer s H vs Q E hr h => ?_)
  · obtain ⟨g, rm, v, n, r, ts, t, hh, rfl, _⟩ := h
    rfl
  · obtain ⟨g, rm, v, n, r, ts, t, hh, rfl, hg, hrm, ht, hsay, kq⟩ := h
    have hrm' := hrm
    obtain ⟨l, xs, rfl, hl, hts, hk, htl⟩ := hrm'
    have hl : H l = some (.lst xs) := hl
    refine ⟨_, (pss_cons (ps_set (i := 3) sc_need_goal.nd rfl (Or.inl rfl) (C8.pe_c (ok_ground_fault B) hr (by decide) (by rfl) (pa_cons (pv 0) pa_nil)))
      (pss_cons (ps_if (pt_cmpR op_notNo (pv 3) pe_non (nomark _)) (pss_one ps_never) pss_nil)
      (pss_cons (ps_if (pt_cmpR op_notNo (C8.pe_c (ok_room_faultL B) hr (by decide) (by rfl) (pa_cons (pv 0) (pa_cons (pv 1) pa_nil))) pe_non (nomark _)) (pss_one ps_never) pss_nil)
      (pss_cons (ps_set (i := 3) sc_need_goal.nd rfl (Or.inl rfl) (C8.pe_c (ok_kind_fault B) hr (by decide) (by rfl) (pa_cons (pv 0) (pa_cons (pe_callTy call_listOf (by rfl) (b_list B) (by decide +kernel) (pa_cons (pv 1) pa_nil)) (pa_cons (pv 2) pa_nil)))))
      (pss_one (ps_if (pt_cmpR op_notNo (pv 3) pe_non (nomark _)) (pss_one ps_never) pss_nil)))))), ?_⟩
    walk_at "rd"
    refine q_ground_fault (K := K) hg ?_
    walk_at "rd"
    refine q_room_fault (K := K) (by walk_at "tm") (hrm.same (by walk_at "sm")) ?_
    walk_at "rd"
    refine q_kind_fault (K := K) (ts := ts) (t := t) (h := hh) (by walk_at "tm") ⟨_, xs, rfl, by walk_at "hp", hts.same (by walk_at "sm")⟩ (by walk_at "tm") hsay (by omega) ?_
    walk_at "rd"
    exact kq _ (by walk_at "sm")
theorem ok_need_goalT (B : Bk w K mg) : C8.Cal P w K mg base 18 "need_goal" (sp_need_goal K true) [] := by
  obtain ⟨fd, F⟩ := D_need_goal B
  refine calD F (g_need_goal B) sc_need_goal (fun _ _ _ _ _ _ us hl => match us, hl with | [_, _, _], _ => rfl) (fun vs H Q E h => ?_) (fun cdv A outer s H vs Q E hr h => ?_)
  · obtain ⟨g, rm, v, n, r, ts, t, hh, rfl, _⟩ := h
    rfl
  · obtain ⟨g, rm, v, n, r, ts, t, hh, rfl, hg, hrm, ht, hsay, kq⟩ := h
    have hrm' := hrm
    obtain ⟨l, xs, rfl, hl, hts, hk, htl⟩ := hrm'
    have hl : H l = some (.tup xs) := hl
    refine ⟨_, (pss_cons (ps_set (i := 3) sc_need_goal.nd rfl (Or.inl rfl) (C8.pe_c (ok_ground_fault B) hr (by decide) (by rfl) (pa_cons (pv 0) pa_nil)))
      (pss_cons (ps_if (pt_cmpR op_notNo (pv 3) pe_non (nomark _)) (pss_one ps_never) pss_nil)
      (pss_cons (ps_if (pt_cmpR op_notNo (C8.pe_c (ok_room_faultT B) hr (by decide) (by rfl) (pa_cons (pv 0) (pa_cons (pv 1) pa_nil))) pe_non (nomark _)) (pss_one ps_never) pss_nil)
      (pss_cons (ps_set (i := 3) sc_need_goal.nd rfl (Or.inl rfl) (C8.pe_c (ok_kind_fault B) hr (by decide) (by rfl) (pa_cons (pv 0) (pa_cons (pe_callTy call_listOf (by rfl) (b_list B) (by decide +kernel) (pa_cons (pv 1) pa_nil)) (pa_cons (pv 2) pa_nil)))))
      (pss_one (ps_if (pt_cmpR op_notNo (pv 3) pe_non (nomark _)) (pss_one ps_never) pss_nil)))))), ?_⟩
    walk_at "rd"
    refine q_ground_fault (K := K) hg ?_
    walk_at "rd"
    refine q_room_fault (K := K) (by walk_at "tm") (hrm.same (by walk_at "sm")) ?_
    walk_at "rd"
    refine q_kind_fault (K := K) (ts := ts) (t := t) (h := hh) (by walk_at "tm") ⟨_, xs, rfl, by walk_at "hp", hts.same (by walk_at "sm")⟩ (by walk_at "tm") hsay (by omega) ?_
    walk_at "rd"
    exact kq _ (by walk_at "sm")
end
section
variable {P : Program} {w : World} {K : PySem.W.Frag} {mg : Str → Option Value} {base : Heap}
def Dd (H : Hp) : Option T → V → Prop
  | none, v => ∃ p, v = .ref p ∧ H p = some (.tup [.str "bring"])
  | some t, v => ∃ p x, v = .ref p ∧ H p = some (.tup [.str "give", x]) ∧ Tm H t x ∧ t.ok ∧ t.depth < 2
theorem Dd.mono {H H' : Hp} (h : ∀ b xs, H b = some (.tup xs) → H' b = some (.tup xs)) : ∀ {d : Option T} {v : V}, Dd H d v → Dd H' d v
  | none, _, ⟨p, e, q⟩ => ⟨p, e, h _ _ q⟩
  | some _, _, ⟨p, x, e, q, t, o⟩ => ⟨p, x, e, h _ _ q, t.mono h, o⟩
theorem Dd.same {H H' : Hp} (s : Same H H') {d : Option T} {v : V} (h : Dd H d v) : Dd H' d v := h.mono fun b xs e => s b _ e
theorem TsAll.mono {H H' : Hp} (h : ∀ b xs, H b = some (.tup xs) → H' b = some (.tup xs)) : ∀ {ts : List T} {vs : List V}, TsAll H ts vs → TsAll H' ts vs
  | [], [], _ => trivial
  | _ :: _, _ :: _, ⟨a, b⟩ => ⟨a.mono h, b.mono h⟩
theorem TsAll.cat {H : Hp} : ∀ {ts us : List T} {vs ws : List V}, TsAll H ts vs → TsAll H us ws → TsAll H (ts ++ us) (vs ++ ws)
  | [], _, [], _, _, h => h
  | _ :: _, _, _ :: _, _, ⟨a, b⟩, h => ⟨a, b.cat h⟩
def sp_has_formd : Sp := fun vs H Q _ => ∃ (x : V) (t : T), vs = [.str ⟨#[116]⟩, x] ∧ Tm H t x ∧ t.ok ∧ t.depth < 2 ∧ ∀ H', Same H H' → Q (.bl true) H'
theorem sc_has_form_deeds : FnScope ["letter", "thing"] ["letter", "thing"] (defScope s_has_form_deeds) := ⟨rfl, rfl, rfl, by decide +kernel, rfl, by decide +kernel, by decide +kernel⟩
theorem ok_has_form_deeds (B : Bk w K mg) : C8.Cal P w K mg base 6 "has_form_deeds" sp_has_formd [] := by
  obtain ⟨fd, F⟩ := D_has_form_deeds B
  refine calD F (g_has_form_deeds B) sc_has_form_deeds (fun _ _ _ _ _ _ us hl => match us, hl with | [_, _], _ => rfl) (fun vs H Q E h => ?_) (fun cdv A outer s H vs Q E hr h => ?_)
  · obtain ⟨x, t, rfl, _⟩ := h
    rfl
  · obtain ⟨x, t, rfl, ht, ho, hd, kq⟩ := h
    refine ⟨_, (pss_cons (ps_if (pt_cmpR op_eq (pv 0) pe_str (nomark _)) (pss_one (ps_ret (C8.pe_c (ok_is_term B 2) hr (by decide) (by rfl) (pa_cons (pv 1) pa_nil)))) pss_nil)
      (pss_one ps_never)), ?_⟩
    walk_at "rd"
    exact kq _ (by walk_at "sm")
def sp_is_deed : Sp := fun vs H Q _ => ∃ (d : Option T) (v : V), vs = [v] ∧ Dd H d v ∧ ∀ H', Same H H' → Q (.bl true) H'
theorem sc_is_deed : FnScope ["thing", "form", "letter", "part"] ["thing"] (defScope s_is_deed) := ⟨rfl, rfl, rfl, by decide +kernel, rfl, by decide +kernel, by decide +kernel⟩
theorem ok_is_deed (B : Bk w K mg) : C8.Cal P w K mg base 7 "is_deed" sp_is_deed [] := by
  obtain ⟨fd, F⟩ := D_is_deed B
  refine calD F (g_is_deed B) sc_is_deed (fun _ _ _ _ _ _ us hl => match us, hl with | [_], _ => rfl) (fun vs H Q E h => ?_) (fun cdv A outer s H vs Q E hr h => ?_)
  · obtain ⟨d, x, rfl, _⟩ := h
    rfl
  · obtain ⟨d, v, rfl, hd, kq⟩ := h
    have KD := FORMSd_at (w := w) B
    refine ⟨_, (pss_cons (ps_if (PW.pt (pw_or (pt_not (pt_val (pe_callB call_isi (by rfl) (b_isinstance B) (by decide +kernel) (pa_cons (pv 0) (pa_cons (pe_bltn (v := .ty "tuple") (by rfl) (b_tuple B) (by decide +kernel) rfl) pa_nil))))) (pw_or (pt_cmpR op_eq (pe_callB call_lenQ (by rfl) (b_len B) (by decide +kernel) (pa_cons (pv 0) pa_nil)) pe_int (nomark _)) (pw_or (pt_not (pt_val (pe_callB call_isi (by rfl) (b_isinstance B) (by decide +kernel) (pa_cons (pe_ix ix_tup (pv 0) pe_int (fun _ _ => rfl)) (pa_cons (pe_bltn (v := .ty "str") (by rfl) (b_str B) (by decide +kernel) rfl) pa_nil))))) (pw_or1 (pt_cmpR op_notInD (pe_ix ix_tup (pv 0) pe_int (fun _ _ => rfl)) (pe_glob (v := .ref (He.ga K "FORMS_deeds")) (by rfl) (g_FORMS_deeds B) rfl) (by rfl))))))) (pss_one (ps_ret pe_bl)) pss_nil)
      (pss_cons (ps_set (i := 1) sc_is_deed.nd rfl (Or.inl rfl) (pe_ix ix_kdict (pe_glob (v := .ref (He.ga K "FORMS_deeds")) (by rfl) (g_FORMS_deeds B) rfl) (pe_ix ix_tup (pv 0) pe_int (fun _ _ => rfl)) (fun _ _ => rfl)))
      (pss_one (ps_ret (pe_and (pe_cmpR op_eq (pe_callB call_lenQ (by rfl) (b_len B) (by decide +kernel) (pa_cons (pv 0) pa_nil)) (pe_op op_add (pe_callB call_lenS (by rfl) (b_len B) (by decide +kernel) (pa_cons (pv 1) pa_nil)) pe_int) (nomark _)) (pe_one (pe_callB (cr_all rfl) (by rfl) (b_all B) (by decide +kernel) (pa_cons (pe_lc (own := [("letter", 2), ("part", 3)]) (tt := tYes) rfl sc_is_deed.nd (Rz.pi_zipS (by rfl) (b_zip B) (pa_cons (pv 1) (pa_cons (pe_slice sl_tup (pv 0) (po_some pe_int) po_none) pa_nil))) (blkOk_by (N := ["thing", "form", "letter", "part"]) (sc := defScope s_is_deed) (by decide +kernel)) (fun _ _ _ _ _ => (pg_tup2 (K0 := K) rfl (i := 2) (j := 3) rfl sc_is_deed.nd rfl rfl (Or.inl rfl) (Or.inl rfl) (Or.inr rfl) (Or.inr rfl))) (fun _ _ _ _ _ => pts_nil) (fun _ _ _ _ _ => (C8.pe_c (ok_has_form_deeds B) hr (by decide) (by rfl) (pa_cons (pv 2) (pa_cons (pv 3) pa_nil))))) pa_nil)))))))), ?_⟩
    cases d with
    | none =>
      obtain ⟨p, rfl, hp⟩ := hd
      obtain ⟨u, hN, hu⟩ := FORMSd_val B (q := ("bring", .str "")) (List.mem_of_getElem? (i := 0) rfl)
      have hu : RelV (.str "") u := hu
      have l0 : (Str.ofString "").length = 0 := by decide +kernel
      walk_at "rd"
      rename_i p1 np1
      refine ⟨_, p1, [], rfl, by walk_at "hp", ?_⟩
      refine lc_map (J := Rz.ItzS K (Str.ofString "") p1) 0 (Nat.zero_le _) (fun _ y _ => y = .bl true) (fun _ _ _ _ e _ => e) (fun i H' hi s' => by omega) (fun H' s' => ⟨[], same_seqT s' (SqT.of upd_same), Nat.zero_le _, Nat.le_refl _, .inr rfl⟩) (fun i y H1 H2 R hi s1 hy hR => by omega) (fun L ys H' nl s2 hL hlen hall => ?_)
      walk_at "rd"
      refine r_allT hL hall ?_
      walk_at "rd"
      exact kq _ (by walk_at "sm")
    | some t =>
      obtain ⟨p, x, rfl, hp, ht, ho, hd⟩ := hd
      obtain ⟨u, hN, hu⟩ := FORMSd_val B (q := ("give", .str "t")) (List.mem_of_getElem? (i := 1) rfl)
      have hu : RelV (.str "t") u := hu
      have l0 : (Str.ofString "t").length = 1 := by decide +kernel
      walk_at "rd"
      rename_i p1 np1
      refine ⟨_, p1, [x], rfl, by walk_at "hp", ?_⟩
      have c0 : (Str.ofString "t").cps[0]? = some 116 := by decide +kernel
      have cs : (Str.ofString "t").cps.size = 1 := by decide +kernel
      refine lc_map (J := Rz.ItzS K (Str.ofString "t") p1) 1 (by decide) (fun _ y _ => y = .bl true) (fun _ _ _ _ e _ => e) (fun i H' hi s' => ⟨[x], same_seqT s' (SqT.of upd_same), by rw [cs]; exact hi, hi⟩) (fun H' s' => ⟨[x], same_seqT s' (SqT.of upd_same), by rw [cs]; decide, Nat.le_refl _, .inr rfl⟩) (fun i y H1 H2 R hi s1 hy hR => ?_) (fun L ys H' nl s2 hL hlen hall => ?_)
      · obtain rfl : i = 0 := by omega
        obtain ⟨T1, c, y, rfl, nT, rfl, hc, hyy⟩ := hy
        have hx := hyy [x] (same_seqT s1 (SqT.of upd_same))
        cases hx
        rw [c0] at hc
        cases hc
        walk_at "rd"
        refine ⟨rfl, ?_⟩
        walk_at "rd"
        exact ⟨x, t, rfl, ht.same (by walk_at "sm"), ho, hd, fun H' s' => hR _ _ (by walk_at "sm") rfl⟩
      · walk_at "rd"
        refine r_allT hL hall ?_
        walk_at "rd"
        exact kq _ (by walk_at "sm")
def sp_need_deed : Sp := fun vs H Q _ => ∃ (d : Option T) (v : V), vs = [v] ∧ Dd H d v ∧ ∀ H', Same H H' → Q .non H'
theorem sc_need_deed : FnScope ["thing"] ["thing"] (defScope s_need_deed) := ⟨rfl, rfl, rfl, by decide +kernel, rfl, by decide +kernel, by decide +kernel⟩
theorem ok_need_deed (B : Bk w K mg) : C8.Cal P w K mg base 8 "need_deed" sp_need_deed [] := by
  obtain ⟨fd, F⟩ := D_need_deed B
  refine calD F (g_need_deed B) sc_need_deed (fun _ _ _ _ _ _ us hl => match us, hl with | [_], _ => rfl) (fun vs H Q E h => ?_) (fun cdv A outer s H vs Q E hr h => ?_)
  · obtain ⟨d, x, rfl, _⟩ := h
    rfl
  · obtain ⟨d, v, rfl, hd, kq⟩ := h
    refine ⟨_, (pss_one (ps_if (pt_not (pt_val (C8.pe_c (ok_is_deed B) hr (by decide) (by rfl) (pa_cons (pv 0) pa_nil)))) (pss_one ps_never) pss_nil)), ?_⟩
    walk_at "rd"
    refine ⟨d, v, rfl, hd, ?_⟩
    walk_at "rd"
    exact kq _ (by walk_at "sm")
theorem putF_lt {f : Str} {v : V} {m : Nat} : ∀ {fs : List (Str × V)}, fs.length < m → (putF f v fs).length < m + 1
  | [], h => by
    show 1 < m + 1
    have : 0 < m := h
    omega
  | (g, x) :: r, h => by
    have h' : r.length + 1 < m := h
    unfold putF
    split
    · show r.length + 1 < m + 1
      omega
    · have := putF_lt (f := f) (v := v) (m := m - 1) (fs := r) (by omega)
      show (putF f v r).length + 1 < m + 1
      omega
end
end
end Kx
namespace Kx
open PySem PySem.Spec PyProof.Rows L2
section
local macro_rules | `(tactic| walk_at "hp") => `(tactic| first
  | assumption
  | exact upd_same
  | (refine' same_new (by assumption) _ _ ?_; walk_at "hp")
  | ((with_reducible apply SqT.of); walk_at "hp") | ((with_reducible apply SqL.of); walk_at "hp")
  | (refine' (show Same _ _ by assumption) _ _ ?_; walk_at "hp")
  | (refine' same_seqT (same_new (by assumption)) ?_; walk_at "hp")
  | (refine' Same.seq (same_new (by assumption)) ?_; walk_at "hp")
  | (refine' same_seqT (show Same _ _ by assumption) ?_; walk_at "hp")
  | (refine' Same.seq (show Same _ _ by assumption) ?_; walk_at "hp"))
local macro_rules | `(tactic| walk_at "sm") => `(tactic| first
  | assumption | exact Same.refl _
  | (refine' Same.trans ?_ (same_new (by assumption)); walk_at "sm")
  | (refine' Same.trans ?_ (show Same _ _ by assumption); walk_at "sm"))
local macro_rules | `(tactic| walk_at "ar") => `(tactic| first | assumption | omega | (simp only [List.length_cons, List.length_nil, List.length_append]; omega))
local macro_rules | `(tactic| walk_at "dt") => `(tactic| first | assumption | exact decide_eq_true (by walk_at "ar") | exact r_nd (decide_eq_false (by walk_at "ar")) | decide +kernel | rfl)
local macro_rules | `(tactic| walk_at "df") => `(tactic| first | assumption | exact decide_eq_false (by walk_at "ar") | exact r_nt (decide_eq_true (by walk_at "ar")) | decide +kernel | rfl)
local macro_rules | `(tactic| walk_at "rd1") => `(tactic| first
  | with_reducible refine iteT ?_
  | with_reducible refine iteF ?_
  | with_reducible refine iteNT ?_
  | with_reducible refine iteNF ?_
  | with_reducible refine r_seq ?_
  | with_reducible refine r_ret ?_
  | with_reducible refine r_retN ?_
  | with_reducible refine r_set ?_
  | with_reducible refine r_ifS ?_
  | with_reducible refine r_drop ?_
  | with_reducible refine r_next ?_
  | with_reducible refine r_c ?_
  | with_reducible refine r_cb ?_
  | with_reducible refine r_op ?_
  | with_reducible refine r_nil ?_
  | with_reducible refine r_cons ?_
  | with_reducible refine r_call ?_
  | with_reducible refine r_and ?_
  | with_reducible refine r_or ?_
  | with_reducible refine r_not ?_
  | with_reducible refine r_if ?_
  | with_reducible refine r_tb ?_
  | with_reducible refine r_test ?_
  | with_reducible refine r_tnot ?_
  | with_reducible refine r_tand ?_
  | with_reducible refine r_tor ?_
  | with_reducible refine r_bl ?_
  | with_reducible refine r_chain ?_
  | with_reducible refine r_i0 ?_
  | with_reducible refine r_eqI ?_
  | with_reducible refine r_eqS ?_
  | with_reducible refine r_neI ?_
  | with_reducible refine r_neS ?_
  | with_reducible refine r_neB ?_
  | with_reducible refine r_isi_int ?_
  | with_reducible refine r_isi_int_bool ?_
  | with_reducible refine r_isi_str ?_
  | with_reducible refine r_tup ?_
  | with_reducible refine r_lst ?_
  | ((with_reducible refine' r_var ?h1 ?_); (case h1 => rfl))
  | ((with_reducible refine' iteOf ?h1 ?_); (case h1 => walk_at "dt"))
  | ((with_reducible refine' iteOff ?h1 ?_); (case h1 => walk_at "df"))
  | ((with_reducible refine' r_lenS ?h1 ?_); (case h1 => first | assumption | exact small_le (by walk_at "ar")))
  | ((with_reducible refine' r_inT ?h1 ?h2 ?h3 ?_); (case h1 => walk_at "hp"); (case h2 => rfl); (case h3 => rfl))
  | ((with_reducible refine' r_notInD ?h1 ?h2 ?_); (case h1 => assumption); (case h2 => assumption))
  | ((with_reducible refine' r_ixD ?h1 ?h2 ?h3 ?_); (case h1 => assumption); (case h2 => assumption); (case h3 => assumption))
  | with_reducible refine r_sl ?_ | with_reducible refine r_part ?_ | with_reducible refine r_nopart ?_
  | ((with_reducible refine' r_slT1 ?h1 ?_); (case h1 => walk_at "hp")) | ((with_reducible refine' r_gTup2 ?h1 ?_); (case h1 => walk_at "hp"))
  | with_reducible refine r_al (fun _ _ => ?_) | ((with_reducible refine r_le ?h1 ?_); (case h1 => walk_at "ar"))
  | with_reducible refine r_max ?_ | with_reducible refine r_inS ?_ | with_reducible refine r_isNN ?_ | with_reducible refine r_isNR ?_ | with_reducible refine r_notNN ?_ | with_reducible refine r_notNR ?_
  | ((with_reducible refine' r_listL ?h1 ?_); (case h1 => walk_at "hp")) | ((with_reducible refine' r_listT ?h1 ?_); (case h1 => walk_at "hp"))
  | ((with_reducible refine' r_tupL ?h1 ?_); (case h1 => walk_at "hp")) | ((with_reducible refine' r_tupT ?h1 ?_); (case h1 => walk_at "hp"))
  | with_reducible refine r_lc ?_ | with_reducible refine r_iStr ?_ | with_reducible refine r_for ?_ | with_reducible refine r_iList ?_ | with_reducible refine r_iTup ?_ | with_reducible refine r_iEnum ?_ | with_reducible refine r_iZipS ?_ | with_reducible refine r_gName ?_
  | with_reducible refine ⟨_, rfl, ?_⟩
  | ((with_reducible refine' r_isi_tup ?h1 ?_); (case h1 => walk_at "hp"))
  | ((with_reducible refine' r_lenT ?h1 ?_); (case h1 => walk_at "hp")) | ((with_reducible refine' r_lenL ?h1 ?_); (case h1 => walk_at "hp"))
  | ((with_reducible refine' r_ixT0 ?h1 ?h2 ?_); (case h1 => walk_at "hp"); (case h2 => rfl))
  | ((with_reducible refine' r_ixL0 ?h1 ?h2 ?_); (case h1 => walk_at "hp"); (case h2 => rfl))
  | ((with_reducible refine' r_ixT1 ?h1 ?h2 ?_); (case h1 => walk_at "hp"); (case h2 => rfl))
  | ((with_reducible refine' r_ixL1 ?h1 ?h2 ?_); (case h1 => walk_at "hp"); (case h2 => rfl))
  | ((with_reducible refine' r_ixT2 ?h1 ?h2 ?_); (case h1 => walk_at "hp"); (case h2 => rfl))
  | ((with_reducible refine' r_ixL2 ?h1 ?h2 ?_); (case h1 => walk_at "hp"); (case h2 => rfl))
  | ((with_reducible refine' r_ixT3 ?h1 ?h2 ?_); (case h1 => walk_at "hp"); (case h2 => rfl))
  | ((with_reducible refine' r_ixL3 ?h1 ?h2 ?_); (case h1 => walk_at "hp"); (case h2 => rfl)))
local macro_rules | `(tactic| walk_at "rd") => `(tactic| repeat walk_at "rd1")
local macro_rules | `(tactic| walk_at "tm") => `(tactic| first
  | assumption
  | ((with_reducible refine' Tm.same ?s1 ?s2); (case s2 => assumption); (case s1 => walk_at "sm"))
  | ((with_reducible refine' Gr.same ?s1 ?s2); (case s2 => assumption); (case s1 => walk_at "sm"))
  | ((with_reducible refine' RowOk.same ?s1 ?s2); (case s2 => assumption); (case s1 => walk_at "sm")))
local macro_rules | `(tactic| walk_at "rd1") => `(tactic| first
  | with_reducible refine r_sm (fun _ _ => ?_)
  | with_reducible refine r_sm2 (fun _ _ _ _ => ?_)
  | with_reducible refine r_meth ?_
  | with_reducible refine r_fld ?_
  | with_reducible refine r_while0 ?_
  | ((with_reducible refine' r_callL ?h1 ?_); (case h1 => rfl))
  | ((with_reducible refine' q_is_term ?h1 ?h2 ?h3 ?_); (case h1 => walk_at "tm"); (case h2 => first | assumption | trivial); (case h3 => first | assumption | decide))
  | ((with_reducible refine' q_need_term ?h1 ?h2 ?h3 ?_); (case h1 => walk_at "tm"); (case h2 => first | assumption | trivial); (case h3 => first | assumption | decide))
  | ((with_reducible refine' q_is_name ?h1 ?_); (case h1 => assumption))
  | ((with_reducible refine' q_row ?h1 ?_); (case h1 => walk_at "tm"))
  | ((with_reducible refine' q_has0 ?h1 ?_); (case h1 => walk_at "tm"))
  | ((with_reducible refine' q_has1 ?h1 ?_); (case h1 => walk_at "tm"))
  | ((with_reducible refine' q_told ?h1 ?_); (case h1 => walk_at "tm"))
  | ((with_reducible refine' q_row_of ?h1 ?_); (case h1 => walk_at "tm"))
  | ((with_reducible refine' r_asGr ?h1 ?h2 ?h3 ?_); (case h1 => walk_at "tm"); (case h2 => decide); (case h3 => decide))
  | ((with_reducible refine' r_inm ?h1 ?h2 ?_); (case h1 => walk_at "hp"); (case h2 => rfl))
  | ((with_reducible refine' r_ifd ?h1 ?h2 ?h3 ?h4 ?_); (case h3 => walk_at "hp"); (case h4 => rfl); (case h1 => assumption); (case h2 => assumption)))
local macro_rules | `(tactic| walk_at "dp") => `(tactic| first
  | assumption
  | exact Dp.non | exact Dp.bl _ | exact Dp.int _ | exact Dp.str _ | exact DpAll.nil
  | ((with_reducible refine' DpAll.cons ?s1 ?s2); (case s1 => walk_at "dp"); (case s2 => walk_at "dp"))
  | ((with_reducible refine' Tm.dp ?s1); (case s1 => walk_at "tm"))
  | ((with_reducible refine' Dp.lst ?s1 ?s2); (case s1 => walk_at "hp"); (case s2 => walk_at "dp"))
  | ((with_reducible refine' Dp.tup ?s1 ?s2); (case s1 => walk_at "hp"); (case s2 => walk_at "dp")))
local macro_rules | `(tactic| walk_at "rd1") => `(tactic| first
  | ((with_reducible refine' r_eqDv ?h1 ?h2 ?h3 ?h4 ?_); (case h1 => walk_at "dp"); (case h2 => walk_at "dp"); (case h3 => first | assumption | rfl); (case h4 => first | assumption | rfl))
  | ((with_reducible refine' r_neDv ?h1 ?h2 ?h3 ?h4 ?_); (case h1 => walk_at "dp"); (case h2 => walk_at "dp"); (case h3 => first | assumption | rfl); (case h4 => first | assumption | rfl)))
local macro_rules | `(tactic| walk_at "vv") => `(tactic| first | assumption | exact valV_nil | exact valV_pos rfl | ((refine' (valV_neg ?n1).trans ?n2); (case n1 => first | decide | simp); (case n2 => walk_at "vv")))
local macro_rules | `(tactic| walk_at "rd1") => `(tactic| first
  | with_reducible refine r_din ?_ | with_reducible refine r_dnin ?_ | with_reducible refine r_dget ?_ | with_reducible refine r_dput ?_ | with_reducible refine r_dnew ?_
  | ((with_reducible refine' r_dinS ?h1 ?h2 ?_); (case h1 => walk_at "hp"); (case h2 => walk_at "vv"))
  | ((with_reducible refine' r_dinI ?h1 ?h2 ?_); (case h1 => walk_at "hp"); (case h2 => walk_at "vv"))
  | ((with_reducible refine' r_dgetS ?h1 ?h2 ?_); (case h1 => walk_at "hp"); (case h2 => walk_at "vv"))
  | ((with_reducible refine' r_dgetI ?h1 ?h2 ?_); (case h1 => walk_at "hp"); (case h2 => walk_at "vv"))
  | ((with_reducible refine' r_dputS ?h1 ?h2 ?_); (case h1 => walk_at "hp"); (case h2 => walk_at "ar"))
  | ((with_reducible refine' r_dputI ?h1 ?h2 ?_); (case h1 => walk_at "hp"); (case h2 => walk_at "ar"))
  | ((with_reducible refine' r_isiLT ?h1 ?h2 ?_); (case h1 => walk_at "hp"); (case h2 => walk_at "hp"))
  | ((with_reducible refine' r_isiLT' ?h1 ?h2 ?_); (case h1 => walk_at "hp"); (case h2 => walk_at "hp")))
local macro_rules | `(tactic| walk_at "rd1") => `(tactic| first
  | with_reducible refine r_sfld ?_
  | ((with_reducible refine' r_ifs ?h1 ?h2 ?h3 ?h4 ?_); (case h1 => walk_at "hp"); (case h2 => assumption); (case h3 => assumption); (case h4 => walk_at "ar"))
  | ((with_reducible refine' r_isGr ?h1 ?_); (case h1 => walk_at "tm"))
  | ((with_reducible refine' r_catL ?h1 ?h2 ?h3 ?_); (case h1 => walk_at "hp"); (case h2 => walk_at "hp"); (case h3 => walk_at "ar")))
local macro_rules | `(tactic| walk_at "tm") => `(tactic| first
  | ((with_reducible refine' Lk.same ?s1 ?s2); (case s2 => assumption); (case s1 => walk_at "sm"))
  | ((with_reducible refine' Rm.same ?s1 ?s2); (case s2 => assumption); (case s1 => walk_at "sm")))
local macro_rules | `(tactic| walk_at "fl") => `(tactic| first
  | walk_at "ar" | ((with_reducible refine putF_lt ?_); walk_at "fl"))
local macro_rules | `(tactic| walk_at "rd1") => `(tactic| first
  | ((with_reducible refine' r_ifs ?h1 ?h2 ?h3 ?h4 ?_); (case h1 => walk_at "hp"); (case h2 => assumption); (case h3 => assumption); (case h4 => walk_at "fl")))
section
variable {P : Program} {w : World} {K : PySem.W.Frag} {mg : Str → Option Value} {base : Heap}
/-! ### spots -/
def Spt (K : PySem.W.Frag) (H : Hp) (g : V) (ts : List T) (goal : T) (d : Option T) (v : V) : Prop := ∃ a dx la vs gv dv, v = .ref a ∧ H a = some (.ins (He.ga K "Spot") dx [("base", g), ("around", .ref la), ("wanted", gv), ("whole", gv), ("act", dv)]) ∧ H la = some (.lst vs) ∧ TsAll H ts vs ∧ Tm H goal gv ∧ Dd H d dv
theorem Spt.same {H H' : Hp} (s : Same H H') {g : V} {ts : List T} {goal : T} {d : Option T} {v : V} (h : Spt K H g ts goal d v) : Spt K H' g ts goal d v := by
  obtain ⟨a, dx, la, vs, gv, dv, e, h1, h2, h3, h4, h5⟩ := h
  exact ⟨a, dx, la, vs, gv, dv, e, s _ _ h1, s _ _ h2, h3.same s, h4.same s, h5.same s⟩
/-- a room of any terms: a list, or a tuple -/
def RmA (H : Hp) (ts : List T) (v : V) : Prop := ∃ l vs, v = .ref l ∧ (H l = some (.lst vs) ∨ H l = some (.tup vs)) ∧ TsAll H ts vs
theorem RmA.same {H H' : Hp} (s : Same H H') {ts : List T} {v : V} (h : RmA H ts v) : RmA H' ts v := by
  obtain ⟨l, vs, e, a, b⟩ := h
  exact ⟨l, vs, e, a.imp (s _ _) (s _ _), b.same s⟩
def sp_Spot_init (K : PySem.W.Frag) : Sp := fun vs H Q _ => ∃ (x dx : Addr) (g rm gv dv : V) (o : Option (Str × V)) (ts : List T) (goal : T) (d : Option T), vs = [.ref x, g, rm, gv, dv] ∧ H x = some (.ins (He.ga K "Spot") dx []) ∧ Gr K H o g ∧ RmA H ts rm ∧ Tm H goal gv ∧ St o goal ∧ Dd H d dv ∧
  ∀ H', But x H H' → Spt K H' g ts goal d (.ref x) → Q .non H'
theorem sc_Spot_init : FnScope ["self", "ground", "room", "goal", "deed"] ["self", "ground", "room", "goal", "deed"] (defScope s_Spot_init) := ⟨rfl, rfl, rfl, by decide +kernel, rfl, by decide +kernel, by decide +kernel⟩
theorem but_tup {H H' : Hp} {x C dx : Addr} {fs : List (Str × V)} (b : But x H H') (hx : H x = some (.ins C dx fs)) : ∀ c xs, H c = some (.tup xs) → H' c = some (.tup xs) := fun c xs e => b c _ (fun z => by
  rw [z, hx] at e
  cases e) e
theorem but_lst {H H' : Hp} {x C dx : Addr} {fs : List (Str × V)} (b : But x H H') (hx : H x = some (.ins C dx fs)) : ∀ c xs, H c = some (.lst xs) → H' c = some (.lst xs) := fun c xs e => b c _ (fun z => by
  rw [z, hx] at e
  cases e) e
theorem but_dk {H H' : Hp} {x C dx : Addr} {fs : List (Str × V)} (b : But x H H') (hx : H x = some (.ins C dx fs)) : ∀ c xs, H c = some (.dK xs) → H' c = some (.dK xs) := fun c xs e => b c _ (fun z => by
  rw [z, hx] at e
  cases e) e
/-- another instance stands -/
theorem but_ins {H H' : Hp} {x C dx C' dx' : Addr} {fs fs' : List (Str × V)} (b : But x H H') (hx : H x = some (.ins C dx fs)) : ∀ c, H c = some (.ins C' dx' fs') → fs ≠ fs' → H' c = some (.ins C' dx' fs') := fun c e n => b c _ (fun z => by
  rw [z, hx] at e
  cases e
  exact n rfl) e
theorem Gr.but {H H' : Hp} {x C dx : Addr} {fs : List (Str × V)} (b : But x H H') (hx : H x = some (.ins C dx fs)) (n : ∀ a b, fs ≠ ([("kept_rows", a), ("kept_by", b)] : List (Str × V))) {o : Option (Str × V)} {v : V} (h : Gr K H o v) : Gr K H' o v := by
  obtain ⟨g, gx, l, d, e, a, h2, h3, r⟩ := h
  exact ⟨g, gx, l, d, e, but_ins b hx _ a (n _ _), but_lst b hx _ _ h2, but_dk b hx _ _ h3, fun q z => by
    obtain ⟨p, k, e1, e2, e3, e4⟩ := r q z
    exact ⟨p, k, e1, but_tup b hx _ _ e2, e3.mono (but_tup b hx), e4⟩⟩
theorem RmA.but {H H' : Hp} {x C dx : Addr} {fs : List (Str × V)} (b : But x H H') (hx : H x = some (.ins C dx fs)) {ts : List T} {v : V} (h : RmA H ts v) : RmA H' ts v := by
  obtain ⟨l, vs, e, a, c⟩ := h
  exact ⟨l, vs, e, a.imp (but_lst b hx _ _) (but_tup b hx _ _), c.mono (but_tup b hx)⟩
theorem mk_Spot (B : Bk w K mg) : C8.Mak P w K mg base 9 "Spot" (He.ga K "Spot") (sp_Spot_init K) [] := by
  obtain ⟨fd, F⟩ := D_Spot_init B
  refine makD (k_Spot B) (g_Spot B) F sc_Spot_init (fun _ _ _ _ _ _ us hl => match us, hl with | [_, _, _, _, _], _ => rfl) (fun vs H Q E h => ?_) (fun cdv A outer s H vs Q E hr h => ?_)
  · obtain ⟨x, dx, g, rm, gv, dv, o, ts, goal, d, rfl, _⟩ := h
    rfl
  · obtain ⟨x, dx, g, rm, gv, dv, o, ts, goal, d, rfl, hx, hg, hrm, hgo, hst, hd, kq⟩ := h
    have cG := c_Spot B
    have n1 := n_Spot_base B
    have n2 := n_Spot_around B
    have n3 := n_Spot_wanted B
    have n4 := n_Spot_whole B
    have n5 := n_Spot_act B
    refine ⟨_, (pss_cons (ps_fld (pv 0) (pv 1) rfl)
      (pss_cons (ps_fld (pv 0) (pe_callTy call_listOf (by rfl) (b_list B) (by decide +kernel) (pa_cons (pv 2) pa_nil)) rfl)
      (pss_cons (ps_fld (pv 0) (pv 3) rfl)
      (pss_cons (ps_fld (pv 0) (C8.pe_c (ok_work_out B) hr (by decide) (by rfl) (pa_cons (pv 1) (pa_cons (pv 3) pa_nil))) rfl)
      (pss_one (ps_fld (pv 0) (pv 4) rfl)))))), ?_⟩
    walk_at "rd"
    generalize hH1 : upd H x _ = H1
    have b1 : But x H H1 := by
      subst hH1
      exact but_upd
    have x1 : H1 x = some (.ins (He.ga K "Spot") dx [("base", g)]) := by
      subst hH1
      exact upd_same
    have rm1 := hrm.but b1 hx
    have go1 := hgo.mono (but_tup b1 hx)
    have g1 := hg.but b1 hx (fun _ _ => nofun)
    have d1 := hd.mono (but_tup b1 hx)
    obtain ⟨l, vs, rfl, hl, hts⟩ := rm1
    have lo : ∀ (R : V → Hp → Prop), (∀ la H2, Same H1 H2 → H2 la = some (.lst vs) → R (.ref la) H2) → rListOf K [.ref l] H1 R := fun R k => by
      rcases hl with hl | hl
      · exact r_listL (SqL.of hl) fun la nla => k la _ (same_new nla) upd_same
      · exact r_listT (SqT.of hl) fun la nla => k la _ (same_new nla) upd_same
    refine lo _ (fun la H2 s2 hla => ?_)
    have x2 : H2 x = some (.ins (He.ga K "Spot") dx [("base", g)]) := by walk_at "hp"
    walk_at "rd"
    generalize hH3 : upd (upd H2 x _) x _ = H3
    have b3 : But x H2 H3 := by
      subst hH3
      exact but_upd.trans but_upd
    have x3 : H3 x = some (.ins (He.ga K "Spot") dx [("base", g), ("around", .ref la), ("wanted", gv)]) := by
      subst hH3
      exact upd_same
    have g3 := (g1.same s2).but b3 x2 (fun _ _ => nofun)
    refine q_work_out (K := K) g3 ((go1.same s2).mono (but_tup b3 x2)) hst ?_
    walk_at "rd"
    rename_i H4 s4
    have x4 : H4 x = some (.ins (He.ga K "Spot") dx [("base", g), ("around", .ref la), ("wanted", gv)]) := by walk_at "hp"
    generalize hH5 : upd (upd H4 x _) x _ = H5
    have b5 : But x H4 H5 := by
      subst hH5
      exact but_upd.trans but_upd
    have x5 : H5 x = some (.ins (He.ga K "Spot") dx [("base", g), ("around", .ref la), ("wanted", gv), ("whole", gv), ("act", dv)]) := by
      subst hH5
      exact upd_same
    have t4 : ∀ c xs, H1 c = some (.tup xs) → H5 c = some (.tup xs) := fun c xs e => but_tup b5 x4 _ _ (s4 _ _ (but_tup b3 x2 _ _ (s2 _ _ e)))
    exact kq _ (b1.trans ((But.of s2).trans (b3.trans ((But.of s4).trans b5)))) ⟨x, dx, la, vs, gv, dv, rfl, x5, but_lst b5 x4 _ _ (s4 _ _ (but_lst b3 x2 _ _ hla)), hts.mono t4, go1.mono t4, d1.mono t4⟩
theorem q_mkSp {H : Hp} {R : Addr → Hp → Prop} {E : XK} {g rm gv dv : V} {o : Option (Str × V)} {ts : List T} {goal : T} {d : Option T} (h1 : Gr K H o g) (h2 : RmA H ts rm) (h3 : Tm H goal gv) (h4 : St o goal) (h5 : Dd H d dv) (k : ∀ a H', Same H H' → Spt K H' g ts goal d (.ref a) → R a H') (x dx : Addr) (nx : H x = none) (nd : H dx = none) (ne : dx ≠ x) :
    sp_Spot_init K [.ref x, g, rm, gv, dv] (upd (upd H dx (.own x)) x (.ins (He.ga K "Spot") dx [])) (fun v H2 => v = .non ∧ R x H2) E := by
  have s1 : Same H (upd (upd H dx (.own x)) x (.ins (He.ga K "Spot") dx [])) := (same_new nd).trans (same_new (by rw [upd_ne ne.symm]; exact nx))
  exact ⟨x, dx, g, rm, gv, dv, o, ts, goal, d, rfl, upd_same, h1.same s1, h2.same s1, h3.same s1, h4, h5.same s1, fun H' b h => ⟨rfl, k _ H' (same_butx s1 nx b) h⟩⟩
def sp_Spot_saying (K : PySem.W.Frag) : Sp := fun vs H Q _ => ∃ (sp g v : V) (o : Option (Str × V)) (ts : List T) (goal : T) (d : Option T) (t t' : T), vs = [sp, v] ∧ Spt K H g ts goal d sp ∧ Gr K H o g ∧ Tm H t v ∧ Says o ts t t' ∧ ts.length ≤ 12 ∧ ∀ v' H', Same H H' → Tm H' t' v' → Q v' H'
theorem sc_Spot_saying : FnScope ["self", "term"] ["self", "term"] (defScope s_Spot_saying) := ⟨rfl, rfl, rfl, by decide +kernel, rfl, by decide +kernel, by decide +kernel⟩
theorem ok_Spot_saying (B : Bk w K mg) : C8.Met P w K mg base 15 (He.ga K "Spot") "saying" (sp_Spot_saying K) [] := by
  obtain ⟨fd, F⟩ := D_Spot_saying B
  refine metD (c_Spot B) (m_Spot_saying B) F sc_Spot_saying (fun _ _ _ _ _ _ us hl => match us, hl with | [_, _], _ => rfl) (fun vs H Q E h => ?_) (fun cdv A outer s H vs Q E hr h => ?_)
  · obtain ⟨sp, g, v, o, ts, goal, d, t, t', rfl, _⟩ := h
    rfl
  · obtain ⟨sp, g, v, o, ts, goal, d, t, t', rfl, hsp, hg, ht, hsay, htl, kq⟩ := h
    obtain ⟨a, dx, la, vs, gv, dv, rfl, ha, hla, hts, _, _⟩ := hsp
    have cG := c_Spot B
    have n1 := n_Spot_base B
    have n2 := n_Spot_around B
    refine ⟨_, (pss_one (ps_ret (C8.pe_c (ok_told_saying B) hr (by decide) (by rfl) (pa_cons (pe_fld (pv 0) rfl) (pa_cons (pe_fld (pv 0) rfl) (pa_cons (pv 1) pa_nil)))))), ?_⟩
    walk_at "rd"
    exact q_told_s hg ⟨la, vs, rfl, hla, hts⟩ ht hsay htl kq
def sp_Spot_need (K : PySem.W.Frag) : Sp := fun vs H Q _ => ∃ (sp : V), vs = [sp, .bl true] ∧ Q .non H
theorem sc_Spot_need : FnScope ["self", "fits"] ["self", "fits"] (defScope s_Spot_need) := ⟨rfl, rfl, rfl, by decide +kernel, rfl, by decide +kernel, by decide +kernel⟩
theorem ok_Spot_need (B : Bk w K mg) : C8.Met P w K mg base 1 (He.ga K "Spot") "need" (sp_Spot_need K) [] := by
  obtain ⟨fd, F⟩ := D_Spot_need B
  refine metD (c_Spot B) (m_Spot_need B) F sc_Spot_need (fun _ _ _ _ _ _ us hl => match us, hl with | [_, _], _ => rfl) (fun vs H Q E h => ?_) (fun cdv A outer s H vs Q E hr h => ?_)
  · obtain ⟨sp, rfl, _⟩ := h
    rfl
  · obtain ⟨sp, rfl, kq⟩ := h
    refine ⟨_, (pss_one (ps_if (pt_not (pt_val (pv 1))) (pss_one ps_never) pss_nil)), ?_⟩
    walk_at "rd"
    exact kq
def sp_Spot_left (K : PySem.W.Frag) : Sp := fun vs H Q _ => ∃ (sp g sv : V) (m : Addr) (ts ms : List T) (ys : List V) (goal : T) (d : Option T), vs = [sp, .ref m, sv] ∧ Spt K H g ts goal d sp ∧ H m = some (.lst ys) ∧ TsAll H ms ys ∧ ts.length + ms.length ≤ 12 ∧
  ∀ p q zs H', Same H H' → H' p = some (.tup [.ref q, sv]) → H' q = some (.tup zs) → TsAll H' (ts ++ ms) zs → Q (.ref p) H'
theorem sc_Spot_left : FnScope ["self", "more", "saying"] ["self", "more", "saying"] (defScope s_Spot_left) := ⟨rfl, rfl, rfl, by decide +kernel, rfl, by decide +kernel, by decide +kernel⟩
theorem ok_Spot_left (B : Bk w K mg) : C8.Met P w K mg base 2 (He.ga K "Spot") "left" (sp_Spot_left K) [] := by
  obtain ⟨fd, F⟩ := D_Spot_left B
  refine metD (c_Spot B) (m_Spot_left B) F sc_Spot_left (fun _ _ _ _ _ _ us hl => match us, hl with | [_, _, _], _ => rfl) (fun vs H Q E h => ?_) (fun cdv A outer s H vs Q E hr h => ?_)
  · obtain ⟨sp, g, sv, m, ts, ms, ys, goal, d, rfl, _⟩ := h
    rfl
  · obtain ⟨sp, g, sv, m, ts, ms, ys, goal, d, rfl, hsp, hm, hms, hle, kq⟩ := h
    obtain ⟨a, dx, la, vs, gv, dv, rfl, ha, hla, hts, _, _⟩ := hsp
    have l1 := hts.len
    have l2 := hms.len
    have cG := c_Spot B
    have n2 := n_Spot_around B
    refine ⟨_, (pss_cons (ps_expr (C8.pe_mt (ok_Spot_need B) hr (by decide) (pv 0) (pa_cons (pe_cmpR op_le (pe_op op_add (pe_callB call_lenQ (by rfl) (b_len B) (by decide +kernel) (pa_cons (pe_fld (pv 0) rfl) pa_nil)) (pe_callB call_lenQ (by rfl) (b_len B) (by decide +kernel) (pa_cons (pv 1) pa_nil))) (pe_gi (i_MOST_ROOM B)) (nomark _)) pa_nil)))
      (pss_one (ps_ret (pe_tup (pa_cons (pe_callTy call_tupOf (by rfl) (b_tuple B) (by decide +kernel) (pa_cons (pe_op op_cat (pe_fld (pv 0) rfl) (pv 1)) pa_nil)) (pa_cons (pv 2) pa_nil)))))), ?_⟩
    walk_at "rd"
    refine ⟨.ref a, by rw [decide_eq_true (by omega)] <;> rfl, ?_⟩
    walk_at "rd"
    exact kq _ _ _ _ (by walk_at "sm") upd_same (by walk_at "hp") ((hts.cat hms).same (by walk_at "sm"))
end
section
variable {P : Program} {w : World} {K : PySem.W.Frag} {mg : Str → Option Value} {base : Heap}
/-! ### the two lambdas -/
def lamOf (st : Stmt) : Expr := match defBody st with
  | [_, _, .Return (some (.Tuple [_, l] _ _)) _] => l
  | _ => .Constant .none 0 ⟨0, 0, 0, 0⟩
def lP (d : Arguments) : Expr → Arguments
  | .Lambda p _ _ _ => p
  | _ => d
def lB : Expr → Expr
  | .Lambda _ b _ _ => b
  | e => e
def lS (d : Scope) : Expr → Scope
  | .Lambda _ _ s _ => s
  | _ => d
abbrev bP : Arguments := lP (defArgs s_done_bring) (lamOf s_done_bring)
abbrev bB : Expr := lB (lamOf s_done_bring)
abbrev bS : Scope := lS (defScope s_done_bring) (lamOf s_done_bring)
abbrev gP : Arguments := lP (defArgs s_done_give) (lamOf s_done_give)
abbrev gB : Expr := lB (lamOf s_done_give)
abbrev gS : Scope := lS (defScope s_done_give) (lamOf s_done_give)
theorem bS_names : bS.names = ([("papers", .local), ("saying", .free)] : List (Str × NameKind)) := by decide +kernel
theorem gS_names : gS.names = ([("papers", .local), ("term", .free)] : List (Str × NameKind)) := by decide +kernel
theorem cB_names : (defScope s_done_bring).names = ([("spot", .local), ("saying", .cell)] : List (Str × NameKind)) := by decide +kernel
theorem cG_names : (defScope s_done_give).names = ([("spot", .local), ("term", .cell)] : List (Str × NameKind)) := by decide +kernel
def nmL : Nat → Nat → Str := fun l _ => if l = 593 then "done_bring.<locals>.<lambda>" else "done_give.<locals>.<lambda>"
abbrev cB (K : PySem.W.Frag) : Addr := He.codeOf K ("done_bring", none)
abbrev cG (K : PySem.W.Frag) : Addr := He.codeOf K ("done_give", none)
abbrev tB (K : PySem.W.Frag) : Addr := He.tabOf K (cB K)
abbrev tG (K : PySem.W.Frag) : Addr := He.tabOf K (cG K)
def TT (K : PySem.W.Frag) : List NdefX.NTab := [(tB K, nmL), (tG K, nmL)]
theorem TT_nm {K : PySem.W.Frag} : ∀ p ∈ TT K, p.2 = nmL := fun p hp => by
  unfold TT at hp
  simp only [List.mem_cons, List.not_mem_nil, or_false] at hp
  rcases hp with rfl | rfl <;> rfl
abbrev Tbs (K : PySem.W.Frag) (H : Hp) : Prop := NdefX.TabsN (TT K) H
structure TBs (K : PySem.W.Frag) (mg : Str → Option Value) (base : Heap) : Prop where
  b : LamX.TabB base mg (cB K) (tB K)
  g : LamX.TabB base mg (cG K) (tG K)
/-- all but the tables stay, nothing that was tracked is gone, the tables are in order -/
structure Kp (K : PySem.W.Frag) (H H' : Hp) : Prop where
  e : LamX.ExtN H H'
  n : ∀ b, H' b = none → H b = none
  t : Tbs K H'
theorem Kp.trans {K : PySem.W.Frag} {H H1 H2 : Hp} (a : Kp K H H1) (b : Kp K H1 H2) : Kp K H H2 := ⟨a.e.trans b.e, fun c h => a.n c (b.n c h), b.t⟩
theorem Kp.of {K : PySem.W.Frag} {H H1 : Hp} (s : Same H H1) (t : Tbs K H) : Kp K H H1 := by
  refine ⟨LamX.ExtN.of s, fun b h => ?_, NdefX.TabsN.ext t s⟩
  cases e : H b with
  | none => rfl
  | some o =>
    rw [s b o e] at h
    cases h
theorem Kp.tup {K : PySem.W.Frag} {H H1 : Hp} (k : Kp K H H1) : ∀ b xs, H b = some (.tup xs) → H1 b = some (.tup xs) := fun b xs e => k.e b _ e (fun _ => nofun)
theorem Kp.lst {K : PySem.W.Frag} {H H1 : Hp} (k : Kp K H H1) : ∀ b xs, H b = some (.lst xs) → H1 b = some (.lst xs) := fun b xs e => k.e b _ e (fun _ => nofun)
theorem Kp.dK {K : PySem.W.Frag} {H H1 : Hp} (k : Kp K H H1) : ∀ b xs, H b = some (.dK xs) → H1 b = some (.dK xs) := fun b xs e => k.e b _ e (fun _ => nofun)
theorem Kp.ins {K : PySem.W.Frag} {H H1 : Hp} (k : Kp K H H1) : ∀ b C dx fs, H b = some (.ins C dx fs) → H1 b = some (.ins C dx fs) := fun b C dx fs e => k.e b _ e (fun _ => nofun)
theorem Kp.gr {K : PySem.W.Frag} {H H1 : Hp} (k : Kp K H H1) {o : Option (Str × V)} {v : V} (h : Gr K H o v) : Gr K H1 o v := by
  obtain ⟨g, gx, l, d, e, a, h2, h3, r⟩ := h
  exact ⟨g, gx, l, d, e, k.ins _ _ _ _ a, k.lst _ _ h2, k.dK _ _ h3, fun q z => by
    obtain ⟨p, kk, e1, e2, e3, e4⟩ := r q z
    exact ⟨p, kk, e1, k.tup _ _ e2, e3.mono k.tup, e4⟩⟩
def BLam (c cc : Addr) : Kl.LM := ⟨"done_bring.<locals>.<lambda>", bP, bB, bS, [("saying", c)], cc⟩
def GLam (c cc : Addr) : Kl.LM := ⟨"done_give.<locals>.<lambda>", gP, gB, gS, [("term", c)], cc⟩
def MkB (H : Hp) (f : Addr) (v : V) : Prop := ∃ c cc, Kl.LamAt H f (BLam c cc) "saying" v
def MkG (H : Hp) (f : Addr) (v : V) : Prop := ∃ c cc, Kl.LamAt H f (GLam c cc) "term" v
theorem hn_b : nmL 593 49 = (("done_bring" : Str) ++ ".<locals>.") ++ "<lambda>" := by decide +kernel
theorem hf_b : NdefX.ndefB (defScope s_done_bring) bS ["saying"] = true := by decide +kernel
theorem hf_g : NdefX.ndefB (defScope s_done_give) gS ["term"] = true := by decide +kernel
/-- what done_bring gives -/
def sp_done_bring (K : PySem.W.Frag) : Sp := fun vs H Q _ => ∃ (sp g : V) (ts : List T) (a b : T), vs = [sp] ∧ Spt K H g ts (.all a b) none sp ∧ ts.length ≤ 11 ∧ Tbs K H ∧
  ∀ p L e q zs bv sv f H', Kp K H H' → H' p = some (.tup [.ref L, .ref f]) → H' L = some (.lst [.ref e]) → H' e = some (.tup [.ref q, bv]) → H' q = some (.tup zs) → TsAll H' (ts ++ [a]) zs → Tm H' b bv → Tm H' (.all a b) sv → MkB H' f sv → Q (.ref p) H'
theorem sc_done_bring : FnScope ["spot", "saying"] ["spot"] (defScope s_done_bring) := ⟨rfl, rfl, rfl, by decide +kernel, rfl, by decide +kernel, by decide +kernel⟩
theorem q_need {H : Hp} {Q : VK} {E : XK} {sp : V} {b : Bool} (hb : b = true) (k : Q .non H) : sp_Spot_need K (sp :: ([.bl b] ++ [])) H Q E := by
  subst hb
  exact ⟨sp, rfl, k⟩
theorem q_left {H : Hp} {Q : VK} {E : XK} {sp g sv : V} {m : Addr} {ts ms : List T} {ys : List V} {goal : T} {d : Option T} (h1 : Spt K H g ts goal d sp) (h2 : H m = some (.lst ys)) (h3 : TsAll H ms ys) (h4 : ts.length + ms.length ≤ 12)
    (k : ∀ p q zs H', Same H H' → H' p = some (.tup [.ref q, sv]) → H' q = some (.tup zs) → TsAll H' (ts ++ ms) zs → Q (.ref p) H') : sp_Spot_left K (sp :: ([.ref m, sv] ++ [])) H Q E := ⟨sp, g, sv, m, ts, ms, ys, goal, d, rfl, h1, h2, h3, h4, k⟩
theorem ok_done_bring (B : Bk w K mg) (TB : TBs K mg base) : C8.Cal P w K mg base 3 "done_bring" (sp_done_bring K) [] := by
  obtain ⟨fd, F⟩ := D_done_bring B
  have hb := F.bindsN (ps := ["spot"]) (fun _ _ _ _ _ _ us hl => match us, hl with | [_], _ => rfl)
  have hkp := F.kp
  obtain ⟨oc, od, dV, kV, doc, pm, an, cdv, ct, osl, rfl, lk, hcd, _, _⟩ := F.ex
  obtain ⟨c, rfl⟩ := He.codeIn_ref hcd
  have hc : cB K = c := He.codeOf_eq lk rfl
  refine ⟨_, _, ["spot"], [], ?_, g_done_bring B, hkp, hb, .nil⟩
  refine Kl.fn_ofL (N := ["spot", "saying"]) lk hcd sc_done_bring (fun vs H Q E h => ?_) (hb3 := rfl) (x := "saying") (i := 1) rfl (by decide +kernel) (fun A outer s H vs Q E hr h => ?_)
  · obtain ⟨sp, g, ts, a, b, rfl, _⟩ := h
    rfl
  · obtain ⟨sp, g, ts, a, b, rfl, hsp, htl, hT, kq⟩ := h
    refine ⟨_, _, _, (ps_set (i := 1) sc_done_bring.nd rfl (Or.inr rfl) (pe_ifExp (pt_cmpR op_eq (pe_ix ix_tup (pe_fld (pv 0) rfl) pe_int (fun _ _ => rfl)) pe_str (nomark _)) (pe_fld (pv 0) rfl) (pe_fld (pv 0) rfl))),
      (ps_expr (C8.pe_mt (ok_Spot_need B) hr (by decide) (pv 0) (pa_cons (pe_cmpR op_eq (pe_ix ix_tup (pv 1) pe_int (fun _ _ => rfl)) pe_str (nomark _)) pa_nil))),
      (pe_tup (pa_cons (pe_lst (pa_cons (C8.pe_mt (ok_Spot_left B) hr (by decide) (pv 0) (pa_cons (pe_lst (pa_cons (pe_ix ix_tup (pv 1) pe_int (fun _ _ => rfl)) pa_nil)) (pa_cons (pe_ix ix_tup (pv 1) pe_int (fun _ _ => rfl)) pa_nil))) pa_nil)) (pa_cons (Kl.pe_lam (T := TT K) (nm := nmL) (c := c) (P := tB K) (hc ▸ TB.b) rfl (List.mem_cons_self ..) hn_b (fun p hp _ => TT_nm p hp) (NdefX.ndef_free hf_b) rfl) pa_nil))), ?_⟩
    have hsp' := hsp
    obtain ⟨a0, dx, la, vs, gv, dv, rfl, ha, hla, hts, hgv, _⟩ := hsp'
    have hgv' := hgv
    obtain ⟨pg, xa, xb, rfl, hpg, hxa, hxb⟩ := hgv'
    have cG := c_Spot B
    have n3 := n_Spot_wanted B
    have n4 := n_Spot_whole B
    walk_at "rd"
    refine q_need (K := K) (by decide +kernel) ?_
    walk_at "rd"
    refine q_left (K := K) (ms := [a]) (hsp.same (by walk_at "sm")) upd_same ⟨hxa.same (by walk_at "sm"), trivial⟩ (show ts.length + 1 ≤ 12 by omega) (fun e q zs H1 s1 he hq hzs => ?_)
    walk_at "rd"
    rename_i L nL
    have hS : Same H (upd H1 L (.lst [.ref e])) := by walk_at "sm"
    have hL : (upd H1 L (.lst [.ref e])) L = some (.lst [.ref e]) := upd_same
    have he2 : (upd H1 L (.lst [.ref e])) e = some (.tup [.ref q, xb]) := by walk_at "hp"
    have hq2 : (upd H1 L (.lst [.ref e])) q = some (.tup zs) := by walk_at "hp"
    have hzs2 := hzs.same (show Same H1 (upd H1 L (.lst [.ref e])) by walk_at "sm")
    generalize upd H1 L (.lst [.ref e]) = H2 at hS hL he2 hq2 hzs2
    refine ⟨NdefX.TabsN.ext hT hS, fun f cc H3 eN nn t3 f0 f1 c1 => ?_⟩
    have k3 : Kp K H H3 := (Kp.of hS hT).trans ⟨eN, nn, t3⟩
    walk_at "rd"
    rename_i p np
    intro cx hcx hcn
    have cxp : cx ≠ p := fun z => by
      rw [z, upd_same] at hcn
      cases hcn
    have hcn3 : H3 cx = none := by
      rw [upd_ne cxp] at hcn
      exact hcn
    have S4 : Same H3 (upd (upd H3 p (.tup [.ref L, .ref f])) cx (Kl.CellO cx (.ref pg))) := (same_new np).trans (same_new hcn)
    have k4 : Kp K H (upd (upd H3 p (.tup [.ref L, .ref f])) cx (Kl.CellO cx (.ref pg))) := k3.trans (Kp.of S4 t3)
    have eq2 : ∀ b o, H2 b = some o → (∀ ps, o ≠ .tbl ps) → (upd (upd H3 p (.tup [.ref L, .ref f])) cx (Kl.CellO cx (.ref pg))) b = some o := fun b o e n => S4 _ _ (eN b o e n)
    refine kq p L e q zs xb (.ref pg) f _ k4 ?_ (eq2 _ _ hL (fun _ => nofun)) (eq2 _ _ he2 (fun _ => nofun)) (eq2 _ _ hq2 (fun _ => nofun)) (hzs2.mono fun b xs e => eq2 _ _ e (fun _ => nofun)) (hxb.mono k4.tup) (hgv.mono k4.tup) ⟨cx, cc, ?_, S4 _ _ c1, cx, rfl, upd_same⟩
    · rw [upd_ne cxp.symm]
      exact upd_same
    · have e1 := S4 _ _ f1
      rw [cB_names] at hcx
      have e2 : cx = s.heap.objs.size + 1 := by
        have q : ([((Str.ofString "saying" : Str), (s.heap.objs.size + 1 : Addr))] : List (Str × Addr)).lookup (Str.ofString "saying") = some cx := hcx
        exact (Kl.look1 q).2
      subst e2
      have e3 : (cloFrom (cellsFrom (s.heap.objs.size + 1) (defScope s_done_bring).names []) bS.names [] : List (Str × Addr)) = ([((Str.ofString "saying" : Str), (s.heap.objs.size + 1 : Addr))] : List (Str × Addr)) := by
        rw [cB_names, bS_names]
        rfl
      have e4 : (⟨(("done_bring" : Str) ++ ".<locals>.") ++ "<lambda>", bP, bB, bS, cloFrom (cellsFrom (s.heap.objs.size + 1) (defScope s_done_bring).names []) bS.names [], cc⟩ : Kl.LM) = BLam (s.heap.objs.size + 1) cc := by
        unfold BLam
        rw [e3, ← hn_b]
        rfl
      rw [← e4]
      exact e1
end
section
variable {P : Program} {w : World} {K : PySem.W.Frag} {mg : Str → Option Value} {base : Heap}
theorem hn_g : nmL 597 15 = (("done_give" : Str) ++ ".<locals>.") ++ "<lambda>" := by decide +kernel
def sp_done_give (K : PySem.W.Frag) : Sp := fun vs H Q _ => ∃ (sp g r : V) (n : Str) (ts : List T), vs = [sp] ∧ Spt K H g ts (.name n) (some (.at_ 0)) sp ∧ Gr K H (some (n, r)) g ∧ ts[ts.length - 1]? = some (.name n) ∧ ts.length ≤ 12 ∧ Tbs K H ∧
  ∀ p L tv f H', Kp K H H' → H' p = some (.tup [.ref L, .ref f]) → H' L = some (.lst []) → Tm H' (.at_ 0) tv → MkG H' f tv → Q (.ref p) H'
theorem q_saying {H : Hp} {Q : VK} {E : XK} {sp g v : V} {o : Option (Str × V)} {ts : List T} {goal : T} {d : Option T} {t t' : T} (h1 : Spt K H g ts goal d sp) (h2 : Gr K H o g) (h3 : Tm H t v) (h4 : Says o ts t t') (h5 : ts.length ≤ 12) (k : ∀ v' H', Same H H' → Tm H' t' v' → Q v' H') : sp_Spot_saying K (sp :: ([v] ++ [])) H Q E := ⟨sp, g, v, o, ts, goal, d, t, t', rfl, h1, h2, h3, h4, h5, k⟩
theorem sc_done_give : FnScope ["spot", "term"] ["spot"] (defScope s_done_give) := ⟨rfl, rfl, rfl, by decide +kernel, rfl, by decide +kernel, by decide +kernel⟩
theorem strOk_name {n : Str} (h : NameOk n) : PyData.strOk n = true := by
  have sm : ∀ c ∈ small, decide (c < 0x110000) = true := by decide
  show n.cps.all (fun c => decide (c < 0x110000)) = true
  rw [← Array.all_toList, List.all_eq_true]
  exact fun c hc => sm c (h.sm c hc)
theorem sh_name {n : Str} (h : NameOk n) : SeqAt.shaped (T.name n).dat = true := by
  have e1 : PyData.strOk (Str.ofString "name") = true := by decide +kernel
  simp [SeqAt.shaped, T.dat, PyData.canLay0, PyData.canLayAll0, PyData.depth, PyData.depthAll, e1, strOk_name h]
theorem eqv_name {n : Str} (h : NameOk n) : PyData.eqv (T.name n).dat (T.name n).dat = true := SeqAt.eqv_refl _ (SeqAt.canLay_of_shaped (sh_name h))
theorem ok_done_give (B : Bk w K mg) (TB : TBs K mg base) : C8.Cal P w K mg base 17 "done_give" (sp_done_give K) [] := by
  obtain ⟨fd, F⟩ := D_done_give B
  have hb := F.bindsN (ps := ["spot"]) (fun _ _ _ _ _ _ us hl => match us, hl with | [_], _ => rfl)
  have hkp := F.kp
  obtain ⟨oc, od, dV, kV, doc, pm, an, cdv, ct, osl, rfl, lk, hcd, _, _⟩ := F.ex
  obtain ⟨c, rfl⟩ := He.codeIn_ref hcd
  have hc : cG K = c := He.codeOf_eq lk rfl
  refine ⟨_, _, ["spot"], [], ?_, g_done_give B, hkp, hb, .nil⟩
  refine Kl.fn_ofL (N := ["spot", "term"]) lk hcd sc_done_give (fun vs H Q E h => ?_) (hb3 := rfl) (x := "term") (i := 1) rfl (by decide +kernel) (fun A outer s H vs Q E hr h => ?_)
  · obtain ⟨sp, g, r, n, ts, rfl, _⟩ := h
    rfl
  · obtain ⟨sp, g, r, n, ts, rfl, hsp, hg, hts0, htl, hT, kq⟩ := h
    refine ⟨_, _, _, (ps_set (i := 1) sc_done_give.nd rfl (Or.inr rfl) (pe_ix ix_tup (pe_fld (pv 0) rfl) pe_int (fun _ _ => rfl))),
      (ps_expr (C8.pe_mt (ok_Spot_need B) hr (by decide) (pv 0) (pa_cons (pe_cmpR (op_eqD hr.units) (C8.pe_mt (ok_Spot_saying B) hr (by decide) (pv 0) (pa_cons (pv 1) pa_nil)) (pe_fld (pv 0) rfl) (nomark _)) pa_nil))),
      (pe_tup (pa_cons (pe_lst pa_nil) (pa_cons (Kl.pe_lam (T := TT K) (nm := nmL) (c := c) (P := tG K) (hc ▸ TB.g) rfl (List.mem_cons_of_mem _ (List.mem_cons_self ..)) hn_g (fun p hp _ => TT_nm p hp) (NdefX.ndef_free hf_g) rfl) pa_nil))), ?_⟩
    have hno : NameOk n := by
      obtain ⟨_, _, _, _, _, z⟩ := hg.row
      exact z
    have hsp' := hsp
    obtain ⟨a0, dx, la, vs, gv, dv, rfl, ha, hla, hts, hgv, hdv⟩ := hsp'
    obtain ⟨pd, xt, rfl, hpd, hxt, _⟩ := hdv
    have hxt' := hxt
    obtain ⟨pt, rfl, hpt⟩ := hxt'
    have cG := c_Spot B
    have n3 := n_Spot_act B
    have n4 := n_Spot_whole B
    walk_at "rd"
    refine q_saying (K := K) hsp hg hxt ⟨rfl, n, r, hts0, rfl, rfl⟩ htl (fun v' H1 s1 hv' => ?_)
    walk_at "rd"
    refine r_eqDv (K := K) hv'.dp (hgv.same s1).dp (sh_name hno) (sh_name hno) ?_
    walk_at "rd"
    refine q_need (K := K) (eqv_name hno) ?_
    walk_at "rd"
    rename_i L nL
    have hS : Same H (upd H1 L (.lst [])) := by walk_at "sm"
    have hL : (upd H1 L (.lst [])) L = some (.lst []) := upd_same
    generalize upd H1 L (.lst []) = H2 at hS hL
    refine ⟨NdefX.TabsN.ext hT hS, fun f cc H3 eN nn t3 f0 f1 c1 => ?_⟩
    have k3 : Kp K H H3 := (Kp.of hS hT).trans ⟨eN, nn, t3⟩
    walk_at "rd"
    rename_i p np
    intro cx hcx hcn
    have cxp : cx ≠ p := fun z => by
      rw [z, upd_same] at hcn
      cases hcn
    have S4 : Same H3 (upd (upd H3 p (.tup [.ref L, .ref f])) cx (Kl.CellO cx (.ref pt))) := (same_new np).trans (same_new hcn)
    have k4 : Kp K H (upd (upd H3 p (.tup [.ref L, .ref f])) cx (Kl.CellO cx (.ref pt))) := k3.trans (Kp.of S4 t3)
    refine kq p L (.ref pt) f _ k4 ?_ (S4 _ _ (eN _ _ hL (fun _ => nofun))) (hxt.mono k4.tup) ⟨cx, cc, ?_, S4 _ _ c1, cx, rfl, upd_same⟩
    · rw [upd_ne cxp.symm]
      exact upd_same
    · have e1 := S4 _ _ f1
      rw [cG_names] at hcx
      have e2 : cx = s.heap.objs.size + 1 := by
        have q : ([((Str.ofString "term" : Str), (s.heap.objs.size + 1 : Addr))] : List (Str × Addr)).lookup (Str.ofString "term") = some cx := hcx
        exact (Kl.look1 q).2
      subst e2
      have e3 : (cloFrom (cellsFrom (s.heap.objs.size + 1) (defScope s_done_give).names []) gS.names [] : List (Str × Addr)) = ([((Str.ofString "term" : Str), (s.heap.objs.size + 1 : Addr))] : List (Str × Addr)) := by
        rw [cG_names, gS_names]
        rfl
      have e4 : (⟨(("done_give" : Str) ++ ".<locals>.") ++ "<lambda>", gP, gB, gS, cloFrom (cellsFrom (s.heap.objs.size + 1) (defScope s_done_give).names []) gS.names [], cc⟩ : Kl.LM) = GLam (s.heap.objs.size + 1) cc := by
        unfold GLam
        rw [e3, ← hn_g]
        rfl
      rw [← e4]
      exact e1
/-! ### the two lambdas called -/
theorem sc_bL : NdefX.NScope ["papers", "saying"] ["papers"] ["saying"] bS := NdefX.nscope_by (by decide +kernel)
theorem sc_gL : NdefX.NScope ["papers", "term"] ["papers"] ["term"] gS := NdefX.nscope_by (by decide +kernel)
/-- what a made lambda is: of done_bring, of done_give -/
def MkAny (H : Hp) (f : Addr) : Prop := (∃ v, MkB H f v) ∨ ∃ v, MkG H f v
/-- called: papers → a paper -/
def sp_made (f : Addr) : Sp := fun vs H Q _ => ∃ (l : Addr) (ps : List V), vs = [.ref l] ∧ H l = some (.lst ps) ∧
  ((∃ a b sv x xs, MkB H f sv ∧ Tm H (.all a b) sv ∧ ps = x :: xs ∧ ∀ p y H', Same H H' → H' p = some (.tup [.str "fun", y, x]) → Tm H' a y → Q (.ref p) H') ∨ ∃ tv, MkG H f tv ∧ Q tv H)
end
section
variable {P : Program} {w : World} {K : PySem.W.Frag} {mg : Str → Option Value} {base : Heap}
theorem drop_tup {H : Hp} {c : Addr} {φ : Heap → Prop} (hc : H c = some (.ext φ)) : ∀ b xs, H b = some (.tup xs) → Kl.dropH H c b = some (.tup xs) := fun b xs e => (Kl.drop_ne (fun z => by
  rw [z, hc] at e
  cases e)).trans e
theorem drop_lst {H : Hp} {c : Addr} {φ : Heap → Prop} (hc : H c = some (.ext φ)) : ∀ b xs, H b = some (.lst xs) → Kl.dropH H c b = some (.lst xs) := fun b xs e => (Kl.drop_ne (fun z => by
  rw [z, hc] at e
  cases e)).trans e
/-- the heap with the cell back -/
theorem same_back {H H' : Hp} {c : Addr} {o : HO} (hc : H c = some o) (s : Same (Kl.dropH H c) H') (hn : H' c = none) : Same H (upd H' c o) := fun b u e => by
  by_cases h : b = c
  · rw [h] at e ⊢
    rw [upd_same, ← e, hc]
  · rw [upd_ne h]
    exact s b u ((Kl.drop_ne h).trans e)
theorem made_ok (B : Bk w K mg) : Kl.LOk P w K mg base 1 MkAny sp_made := by
  refine ⟨fun A outer s H f us vs Q hr e0 hf r hq => ?_⟩
  obtain ⟨l, ps, rfl, hl, hq⟩ := hq
  rcases hq with ⟨a, b, sv, x, xs, ⟨c, cc, L⟩, hsv, rfl, kq⟩ | ⟨tv, ⟨c, cc, L⟩, kq⟩
  · have L' := L
    obtain ⟨hf1, hf2, c', hcl, hc⟩ := L'
    cases hcl
    refine Kl.run_lam (N := ["papers", "saying"]) (ps := ["papers"]) (x := "saying") sc_bL (fun pm ctv us hl => match us, hl with | [_], _ => rfl) hr e0 L r rfl (fun A outer s H hr => (pe_tup (pa_cons pe_str (pa_cons (pe_ix (ix_tupK (K0 := K) rfl) (pv 1) pe_int (fun _ _ => rfl)) (pa_cons (pe_ix (ix_listK (K0 := K) rfl) (pv 0) pe_int (fun _ _ => rfl)) pa_nil))))) (fun c1 e1 => ?_)
    cases e1
    obtain ⟨p, xa, xb, rfl, hp, ha, hb⟩ := hsv
    have hpd := drop_tup hc _ _ hp
    have hld := drop_lst hc _ _ hl
    walk_at "rd"
    rename_i q nq
    intro hn
    have S := same_back hc (same_new nq) hn
    refine kq q xa _ S ?_ (ha.same S)
    rw [upd_ne (fun z => by
      rw [z] at hn
      rw [upd_same] at hn
      cases hn)]
    exact upd_same
  · have L' := L
    obtain ⟨hf1, hf2, c', hcl, hc⟩ := L'
    cases hcl
    refine Kl.run_lam (N := ["papers", "term"]) (ps := ["papers"]) (x := "term") sc_gL (fun pm ctv us hl => match us, hl with | [_], _ => rfl) hr e0 L r rfl (fun A outer s H hr => pv 1) (fun c1 e1 => ?_)
    cases e1
    walk_at "rd"
    intro hn
    have e : upd (Kl.dropH H c) c (Kl.CellO c tv) = H := by
      funext b
      by_cases h : b = c
      · rw [h, upd_same, hc]
      · rw [upd_ne h, Kl.drop_ne h]
    rw [e]
    exact kq
end
section
variable {P : Program} {w : World} {K : PySem.W.Frag} {mg : Str → Option Value} {base : Heap}
theorem cal_at {x : Str} {a : Addr} {k : Nat} {sp : Sp} (c : C8.Cal P w K mg base k x sp []) (g : mg x = some (.ref a)) : ∃ fd ps, FnOk P w K mg base C8.CX0 k a fd ps sp ∧ PySem.W.keepIn K (.ref a) = true ∧ Binds K fd ps [] := by
  obtain ⟨f, fd, ps, ds, F, hm, kp, b, d⟩ := c.ex
  rw [g] at hm
  cases hm
  cases d
  exact ⟨fd, ps, F, kp, b⟩
def sp_done_inB (K : PySem.W.Frag) : Sp := fun vs H Q _ => ∃ (g rm gv dv : V) (o : Option (Str × V)) (ts : List T) (a b : T), vs = [g, rm, gv, dv] ∧ Gr K H o g ∧ RmA H ts rm ∧ Tm H (.all a b) gv ∧ St o (.all a b) ∧ Dd H none dv ∧ ts.length ≤ 11 ∧ Tbs K H ∧
  ∀ p L e q zs bv sv f H', Kp K H H' → H' p = some (.tup [.ref L, .ref f]) → H' L = some (.lst [.ref e]) → H' e = some (.tup [.ref q, bv]) → H' q = some (.tup zs) → TsAll H' (ts ++ [a]) zs → Tm H' b bv → Tm H' (.all a b) sv → MkB H' f sv → Q (.ref p) H'
def sp_done_inG (K : PySem.W.Frag) : Sp := fun vs H Q _ => ∃ (g rm gv dv r : V) (n : Str) (ts : List T), vs = [g, rm, gv, dv] ∧ Gr K H (some (n, r)) g ∧ RmA H ts rm ∧ Tm H (.name n) gv ∧ Dd H (some (.at_ 0)) dv ∧ ts[ts.length - 1]? = some (.name n) ∧ ts.length ≤ 12 ∧ Tbs K H ∧
  ∀ p L tv f H', Kp K H H' → H' p = some (.tup [.ref L, .ref f]) → H' L = some (.lst []) → Tm H' (.at_ 0) tv → MkG H' f tv → Q (.ref p) H'
theorem q_need_deed {H : Hp} {Q : VK} {E : XK} {d : Option T} {v : V} (h : Dd H d v) (k : ∀ H', Same H H' → Q .non H') : sp_need_deed ([v] ++ []) H Q E := ⟨d, v, rfl, h, k⟩
theorem sc_done_in : FnScope ["ground", "room", "saying", "deed", "done"] ["ground", "room", "saying", "deed"] (defScope s_done_in) := ⟨rfl, rfl, rfl, by decide +kernel, rfl, by decide +kernel, by decide +kernel⟩
theorem ok_done_inB (B : Bk w K mg) (TB : TBs K mg base) : C8.Cal P w K mg base 18 "done_in" (sp_done_inB K) [] := by
  obtain ⟨fd, F⟩ := D_done_in B
  obtain ⟨fd2, ps2, F2, kp2, b2⟩ := cal_at (P := P) (ok_done_bring B TB) (g_done_bring B)
  refine calD F (g_done_in B) sc_done_in (fun _ _ _ _ _ _ us hl => match us, hl with | [_, _, _, _], _ => rfl) (fun vs H Q E h => ?_) (fun cdv A outer s H vs Q E hr h => ?_)
  · obtain ⟨g, rm, gv, dv, o, ts, a, b, rfl, _⟩ := h
    rfl
  · obtain ⟨g, rm, gv, dv, o, ts, a, b, rfl, hg, hrm, hgv, hst, hd, htl, hT, kq⟩ := h
    have hd' := hd
    obtain ⟨pd, rfl, hpd⟩ := hd'
    have KD := DONE_at (w := w) B
    obtain ⟨u, hN, hu⟩ := DONE_val B (q := ("bring", .glo "done_bring")) (List.mem_of_getElem? (i := 0) rfl)
    refine ⟨_, (pss_cons (ps_expr (C8.pe_c (ok_need_deed B) hr (by decide) (by rfl) (pa_cons (pv 3) pa_nil)))
      (pss_cons (ps_set (i := 4) sc_done_in.nd rfl (Or.inl rfl) (pe_ix ix_kdict (pe_glob (v := .ref (He.ga K "DONE")) (by rfl) (g_DONE B) rfl) (pe_ix ix_tup (pv 3) pe_int (fun _ _ => rfl)) (fun _ _ => rfl)))
      (pss_one (ps_ret (pe_callL (E := C8.E0) (i := 4) (dvs := []) F2 (hr.mono (by decide)) rfl (Or.inl rfl) kp2 b2 .nil C8.pass0 (pa_cons (C8.pe_mk (mk_Spot B) hr (by decide) (by rfl) (pa_cons (pv 0) (pa_cons (pv 1) (pa_cons (pv 2) (pa_cons (pv 3) pa_nil))))) pa_nil)))))), ?_⟩
    walk_at "rd"
    refine q_need_deed hd ?_
    walk_at "rd"
    rename_i H1 s1
    refine r_make ?_
    walk_at "rd"
    refine q_mkSp (K := K) (ts := ts) (goal := .all a b) (d := none) (hg.same s1) (hrm.same s1) (hgv.same s1) hst (hd.same s1) (fun sa H2 s2 hsp => ?_)
    walk_at "rd"
    have s12 := s1.trans s2
    exact ⟨_, g, ts, a, b, rfl, hsp, htl, NdefX.TabsN.ext hT s12, fun p L e q zs bv sv f H' k' => kq p L e q zs bv sv f H' ((Kp.of s12 hT).trans k')⟩
theorem ok_done_inG (B : Bk w K mg) (TB : TBs K mg base) : C8.Cal P w K mg base 18 "done_in" (sp_done_inG K) [] := by
  obtain ⟨fd, F⟩ := D_done_in B
  obtain ⟨fd2, ps2, F2, kp2, b2⟩ := cal_at (P := P) (ok_done_give B TB) (g_done_give B)
  refine calD F (g_done_in B) sc_done_in (fun _ _ _ _ _ _ us hl => match us, hl with | [_, _, _, _], _ => rfl) (fun vs H Q E h => ?_) (fun cdv A outer s H vs Q E hr h => ?_)
  · obtain ⟨g, rm, gv, dv, r, n, ts, rfl, _⟩ := h
    rfl
  · obtain ⟨g, rm, gv, dv, r, n, ts, rfl, hg, hrm, hgv, hd, hts, htl, hT, kq⟩ := h
    have hd' := hd
    obtain ⟨pd, xd, rfl, hpd, _⟩ := hd'
    have KD := DONE_at (w := w) B
    obtain ⟨u, hN, hu⟩ := DONE_val B (q := ("give", .glo "done_give")) (List.mem_of_getElem? (i := 1) rfl)
    refine ⟨_, (pss_cons (ps_expr (C8.pe_c (ok_need_deed B) hr (by decide) (by rfl) (pa_cons (pv 3) pa_nil)))
      (pss_cons (ps_set (i := 4) sc_done_in.nd rfl (Or.inl rfl) (pe_ix ix_kdict (pe_glob (v := .ref (He.ga K "DONE")) (by rfl) (g_DONE B) rfl) (pe_ix ix_tup (pv 3) pe_int (fun _ _ => rfl)) (fun _ _ => rfl)))
      (pss_one (ps_ret (pe_callL (E := C8.E0) (i := 4) (dvs := []) F2 (hr.mono (by decide)) rfl (Or.inl rfl) kp2 b2 .nil C8.pass0 (pa_cons (C8.pe_mk (mk_Spot B) hr (by decide) (by rfl) (pa_cons (pv 0) (pa_cons (pv 1) (pa_cons (pv 2) (pa_cons (pv 3) pa_nil))))) pa_nil)))))), ?_⟩
    walk_at "rd"
    refine q_need_deed hd ?_
    walk_at "rd"
    rename_i H1 s1
    refine r_make ?_
    walk_at "rd"
    refine q_mkSp (K := K) (o := some (n, r)) (ts := ts) (goal := .name n) (d := some (.at_ 0)) (hg.same s1) (hrm.same s1) (hgv.same s1) ⟨r, rfl⟩ (hd.same s1) (fun sa H2 s2 hsp => ?_)
    walk_at "rd"
    have s12 := s1.trans s2
    exact ⟨_, g, r, n, ts, rfl, hsp, hg.same s12, hts, htl, NdefX.TabsN.ext hT s12, fun p L tv f H' k' => kq p L tv f H' ((Kp.of s12 hT).trans k')⟩
def sp_done_at (K : PySem.W.Frag) : Sp := fun vs H Q _ => ∃ (g rm gv dv r : V) (n : Str) (ts : List T), vs = [g, rm, gv, dv] ∧ Gr K H (some (n, r)) g ∧ RmK false H ts rm ∧ Tm H (.all (.name n) (.name n)) gv ∧ Dd H none dv ∧ Tbs K H ∧
  ∀ p L e q zs bv sv f H', Kp K H H' → H' p = some (.tup [.ref L, .ref f]) → H' L = some (.lst [.ref e]) → H' e = some (.tup [.ref q, bv]) → H' q = some (.tup zs) → TsAll H' (ts ++ [.name n]) zs → Tm H' (.name n) bv → Tm H' (.all (.name n) (.name n)) sv → MkB H' f sv → Q (.ref p) H'
theorem sc_done_at : FnScope ["ground", "room", "saying", "deed"] ["ground", "room", "saying", "deed"] (defScope s_done_at) := ⟨rfl, rfl, rfl, by decide +kernel, rfl, by decide +kernel, by decide +kernel⟩
theorem fn_done_at (B : Bk w K mg) (TB : TBs K mg base) {fd : FuncData} (F : FunD K "done_at" "done_at" (defArgs s_done_at) (defBody s_done_at) (defScope s_done_at) [] [] (He.ga K "done_at") fd) : FnOk P w K mg base C8.CX0 19 (He.ga K "done_at") fd ["ground", "room", "saying", "deed"] (sp_done_at K) := by
  refine fokD F sc_done_at (fun vs H Q E h => ?_) (fun cdv A outer s H vs Q E hr h => ?_)
  · obtain ⟨g, rm, gv, dv, r, n, ts, rfl, _⟩ := h
    rfl
  · obtain ⟨g, rm, gv, dv, r, n, ts, rfl, hg, hrm, hgv, hd, hT, kq⟩ := h
    have hno : NameOk n := by
      obtain ⟨_, _, _, _, _, z⟩ := hg.row
      exact z
    have hrm' := hrm
    obtain ⟨l, vs, rfl, hl, hts, hk, htl⟩ := hrm'
    refine ⟨_, (pss_cons (ps_expr (C8.pe_c (ok_need_ground B) hr (by decide) (by rfl) (pa_cons (pv 0) pa_nil)))
      (pss_cons (ps_expr (C8.pe_c (ok_need_roomL B) hr (by decide) (by rfl) (pa_cons (pv 1) pa_nil)))
      (pss_cons (ps_expr (C8.pe_c (ok_need_term B) hr (by decide) (by rfl) (pa_cons (pv 2) pa_nil)))
      (pss_one (ps_ret (C8.pe_c (ok_done_inB B TB) hr (by decide) (by rfl) (pa_cons (pv 0) (pa_cons (pv 1) (pa_cons (pv 2) (pa_cons (pv 3) pa_nil)))))))))), ?_⟩
    walk_at "rd"
    refine ⟨g, _, rfl, hg, ?_⟩
    walk_at "rd"
    refine q_need_room hrm ?_
    walk_at "rd"
    refine q_need_term (t := .all (.name n) (.name n)) (by walk_at "tm") ⟨hno, hno⟩ (show 1 < 2 by decide) ?_
    walk_at "rd"
    rename_i H1 s1 H2 s2
    have s12 := s1.trans s2
    exact ⟨g, _, gv, dv, some (n, r), ts, .name n, .name n, rfl, hg.same s12, ⟨l, vs, rfl, .inl (s12 _ _ hl), hts.same s12⟩, hgv.same s12, ⟨⟨trivial, trivial⟩, ⟨r, rfl⟩, ⟨r, rfl⟩⟩, hd.same s12, by omega, NdefX.TabsN.ext hT s12, fun p L e q zs bv sv f H' k' => kq p L e q zs bv sv f H' ((Kp.of s12 hT).trans k')⟩
end
section
variable {P : Program} {w : World} {K : PySem.W.Frag} {mg : Str → Option Value} {base : Heap}
/-! ### works -/
/-- what a work holds -/
structure WS where
  goals : List (Key × V)
  deeds : List (Key × V)
  left : List (Key × V)
  makes : List (Key × V)
  next : Int
/-- its four dicts -/
structure WD where
  g : Addr
  d : Addr
  l : Addr
  m : Addr
def WD.all (D : WD) : List Addr := [D.g, D.d, D.l, D.m]
def wFs (g : V) (D : WD) (n : Int) : List (Str × V) := [("kept_ground", g), ("kept_goals", .ref D.g), ("kept_deeds", .ref D.d), ("kept_left", .ref D.l), ("kept_makes", .ref D.m), ("kept_next", .int n)]
structure Wk (K : PySem.W.Frag) (H : Hp) (a : Addr) (g : V) (D : WD) (S : WS) : Prop where
  at_ : ∃ dx, H a = some (.ins (He.ga K "Work") dx (wFs g D S.next))
  hg : H D.g = some (.dK S.goals)
  hd : H D.d = some (.dK S.deeds)
  hl : H D.l = some (.dK S.left)
  hm : H D.m = some (.dK S.makes)
  nd : D.all.Nodup
theorem Wk.same {H H' : Hp} (s : Same H H') {a : Addr} {g : V} {D : WD} {S : WS} (h : Wk K H a g D S) : Wk K H' a g D S := by
  obtain ⟨⟨dx, e⟩, h1, h2, h3, h4, h5⟩ := h
  exact ⟨⟨dx, s _ _ e⟩, s _ _ h1, s _ _ h2, s _ _ h3, s _ _ h4, h5⟩
theorem sc_Work_ground : FnScope ["self"] ["self"] (defScope s_Work_ground) := ⟨rfl, rfl, rfl, by decide +kernel, rfl, by decide +kernel, by decide +kernel⟩
def sp_Work_ground (K : PySem.W.Frag) : Sp := fun vs H Q _ => ∃ (a : Addr) (g : V) (D : WD) (S : WS), vs = [.ref a] ∧ Wk K H a g D S ∧ Q g H
theorem ok_Work_ground (B : Bk w K mg) : C8.Met P w K mg base 1 (He.ga K "Work") "ground" (sp_Work_ground K) [] := by
  obtain ⟨fd, F⟩ := D_Work_ground B
  refine metD (c_Work B) (m_Work_ground B) F sc_Work_ground (fun _ _ _ _ _ _ us hl => match us, hl with | [_], _ => rfl) (fun vs H Q E h => ?_) (fun cdv A outer s H vs Q E hr h => ?_)
  · obtain ⟨a, g, D, S, rfl, _⟩ := h
    rfl
  · obtain ⟨a, g, D, S, rfl, ⟨⟨dx, ha⟩, _⟩, kq⟩ := h
    have cG := c_Work B
    have n1 := n_Work_kept_ground B
    refine ⟨_, (pss_one (ps_ret (pe_fld (pv 0) rfl))), ?_⟩
    walk_at "rd"
    exact kq
theorem sc_Work_need_hole : FnScope ["self", "hole", "filled"] ["self", "hole", "filled"] (defScope s_Work_need_hole) := ⟨rfl, rfl, rfl, by decide +kernel, rfl, by decide +kernel, by decide +kernel⟩
def sp_need_hole (K : PySem.W.Frag) : Sp := fun vs H Q _ => ∃ (a : Addr) (g : V) (D : WD) (S : WS) (h : Int) (b : Bool) (v : V) (o : Option V), vs = [.ref a, .int h, .bl b] ∧ Wk K H a g D S ∧ valV S.goals (.inl h) = some v ∧ valV S.deeds (.inl h) = o ∧ b = o.isSome ∧ Q .non H
theorem q_need_hole {H : Hp} {Q : VK} {E : XK} {a : Addr} {g : V} {D : WD} {S : WS} {h : Int} {b : Bool} {v : V} {o : Option V} (h1 : Wk K H a g D S) (h2 : valV S.goals (.inl h) = some v) (h3 : valV S.deeds (.inl h) = o) (h4 : b = o.isSome) (k : Q .non H) : sp_need_hole K (.ref a :: ([.int h, .bl b] ++ [])) H Q E := ⟨a, g, D, S, h, b, v, o, rfl, h1, h2, h3, h4, k⟩
theorem ok_need_hole (B : Bk w K mg) : C8.Met P w K mg base 1 (He.ga K "Work") "need_hole" (sp_need_hole K) [] := by
  obtain ⟨fd, F⟩ := D_Work_need_hole B
  refine metD (c_Work B) (m_Work_need_hole B) F sc_Work_need_hole (fun _ _ _ _ _ _ us hl => match us, hl with | [_, _, _], _ => rfl) (fun vs H Q E h => ?_) (fun cdv A outer s H vs Q E hr h => ?_)
  · obtain ⟨a, g, D, S, h, b, v, o, rfl, _⟩ := h
    rfl
  · obtain ⟨a, g, D, S, h, b, v, o, rfl, ⟨⟨dx, ha⟩, hg, hd, hl, hm, _⟩, e1, e2, rfl, kq⟩ := h
    have cG := c_Work B
    have n1 := n_Work_kept_goals B
    have n2 := n_Work_kept_deeds B
    have hu := hu_of hr
    refine ⟨_, (pss_cons (ps_if (PW.pt (pw_or (pt_not (pt_val (pe_callB call_isi (by rfl) (b_isinstance B) (by decide +kernel) (pa_cons (pv 1) (pa_cons (pe_bltn (v := .ty "int") (by rfl) (b_int B) (by decide +kernel) rfl) pa_nil))))) (pw_or (pt_val (pe_callB call_isi (by rfl) (b_isinstance B) (by decide +kernel) (pa_cons (pv 1) (pa_cons (pe_bltn (v := .ty "bool") (by rfl) (b_bool B) (by decide +kernel) rfl) pa_nil)))) (pw_or1 (pt_cmp (pc_dnotin hu (pv 1) (pe_fld (pv 0) rfl))))))) (pss_one ps_never) pss_nil)
      (pss_one (ps_if (pt_cmpR op_ne (pe_cmp (pc_din hu (pv 1) (pe_fld (pv 0) rfl))) (pv 2) (nomark _)) (pss_one ps_never) pss_nil))), ?_⟩
    walk_at "rd"
    rw [if_neg (by simp)]
    exact kq
theorem r_isWk {C : Addr} {m : Str} {H : Hp} {a : Addr} {g : V} {D : WD} {S : WS} {R : Prop} (hC : C = He.ga K "Work") (h : Wk K H a g D S) (hm : ∀ g D n, (wFs g D n).lookup m = none) (k : R) : ∃ a' dx' fs', V.ref a = .ref a' ∧ H a' = some (.ins C dx' fs') ∧ fs'.lookup m = none ∧ R := by
  subst hC
  obtain ⟨dx, e⟩ := h.at_
  exact ⟨a, dx, _, rfl, e, hm _ _ _, k⟩
theorem sc_Work_goal : FnScope ["self", "hole", "room", "saying"] ["self", "hole"] (defScope s_Work_goal) := ⟨rfl, rfl, rfl, by decide +kernel, rfl, by decide +kernel, by decide +kernel⟩
def sp_Work_goal (K : PySem.W.Frag) : Sp := fun vs H Q _ => ∃ (a p q : Addr) (g sv : V) (zs : List V) (D : WD) (S : WS) (h : Int), vs = [.ref a, .int h] ∧ Wk K H a g D S ∧ valV S.goals (.inl h) = some (.ref p) ∧ valV S.deeds (.inl h) = none ∧ H p = some (.tup [.ref q, sv]) ∧ H q = some (.tup zs) ∧
  ∀ r l H', Same H H' → H' r = some (.tup [.ref l, sv]) → H' l = some (.lst zs) → Q (.ref r) H'
theorem fn_Work_goal (B : Bk w K mg) {fd : FuncData} (F : FunD K "goal" "Work.goal" (defArgs s_Work_goal) (defBody s_Work_goal) (defScope s_Work_goal) [] [] (He.ma K (He.ga K "Work") "goal") fd) : FnOk P w K mg base C8.CX0 2 (He.ma K (He.ga K "Work") "goal") fd ["self", "hole"] (sp_Work_goal K) := by
  refine fokD F sc_Work_goal (fun vs H Q E h => ?_) (fun cdv A outer s H vs Q E hr h => ?_)
  · obtain ⟨a, p, q, g, sv, zs, D, S, h, rfl, _⟩ := h
    rfl
  · obtain ⟨a, p, q, g, sv, zs, D, S, h, rfl, hW, e1, e2, hp, hq, kq⟩ := h
    have hW' := hW
    obtain ⟨⟨dx, ha⟩, hg, hd, hl, hm, _⟩ := hW'
    have cG := c_Work B
    have n1 := n_Work_kept_goals B
    have hu := hu_of hr
    refine ⟨_, (pss_cons (ps_expr (C8.pe_mt (ok_need_hole B) hr (by decide) (pv 0) (pa_cons (pv 1) (pa_cons pe_bl pa_nil))))
      (pss_cons (ps_asg (pe_dget hu (pe_fld (pv 0) rfl) (pv 1) (fun _ _ => rfl)) (pg_tup2 (K0 := K) rfl (i := 2) (j := 3) rfl sc_Work_goal.nd rfl rfl (Or.inl rfl) (Or.inl rfl) (Or.inl rfl) (Or.inl rfl)))
      (pss_one (ps_ret (pe_tup (pa_cons (pe_callTy call_listOf (by rfl) (b_list B) (by decide +kernel) (pa_cons (pv 2) pa_nil)) (pa_cons (pv 3) pa_nil))))))), ?_⟩
    walk_at "rd"
    refine q_need_hole (K := K) hW e1 e2 rfl ?_
    walk_at "rd"
    refine r_asg ?_
    walk_at "rd"
    exact kq _ _ _ (by walk_at "sm") upd_same (by walk_at "hp")
theorem sc_Work_deed : FnScope ["self", "hole"] ["self", "hole"] (defScope s_Work_deed) := ⟨rfl, rfl, rfl, by decide +kernel, rfl, by decide +kernel, by decide +kernel⟩
def sp_Work_deed (K : PySem.W.Frag) : Sp := fun vs H Q _ => ∃ (a : Addr) (g v x : V) (D : WD) (S : WS) (h : Int), vs = [.ref a, .int h] ∧ Wk K H a g D S ∧ valV S.goals (.inl h) = some v ∧ valV S.deeds (.inl h) = some x ∧ Q x H
theorem fn_Work_deed (B : Bk w K mg) {fd : FuncData} (F : FunD K "deed" "Work.deed" (defArgs s_Work_deed) (defBody s_Work_deed) (defScope s_Work_deed) [] [] (He.ma K (He.ga K "Work") "deed") fd) : FnOk P w K mg base C8.CX0 2 (He.ma K (He.ga K "Work") "deed") fd ["self", "hole"] (sp_Work_deed K) := by
  refine fokD F sc_Work_deed (fun vs H Q E h => ?_) (fun cdv A outer s H vs Q E hr h => ?_)
  · obtain ⟨a, g, v, x, D, S, h, rfl, _⟩ := h
    rfl
  · obtain ⟨a, g, v, x, D, S, h, rfl, hW, e1, e2, kq⟩ := h
    have hW' := hW
    obtain ⟨⟨dx, ha⟩, hg, hd, hl, hm, _⟩ := hW'
    have cG := c_Work B
    have n1 := n_Work_kept_deeds B
    have hu := hu_of hr
    refine ⟨_, (pss_cons (ps_expr (C8.pe_mt (ok_need_hole B) hr (by decide) (pv 0) (pa_cons (pv 1) (pa_cons pe_bl pa_nil))))
      (pss_one (ps_ret (pe_dget hu (pe_fld (pv 0) rfl) (pv 1) (fun _ _ => rfl))))), ?_⟩
    walk_at "rd"
    refine q_need_hole (K := K) hW e1 e2 rfl ?_
    walk_at "rd"
    exact kq
theorem sc_Work_left : FnScope ["self", "hole"] ["self", "hole"] (defScope s_Work_left) := ⟨rfl, rfl, rfl, by decide +kernel, rfl, by decide +kernel, by decide +kernel⟩
def sp_Work_left (K : PySem.W.Frag) : Sp := fun vs H Q _ => ∃ (a L : Addr) (g v x : V) (zs : List V) (D : WD) (S : WS) (h : Int), vs = [.ref a, .int h] ∧ Wk K H a g D S ∧ valV S.goals (.inl h) = some v ∧ valV S.deeds (.inl h) = some x ∧ valV S.left (.inl h) = some (.ref L) ∧ H L = some (.lst zs) ∧ ∀ l H', Same H H' → H' l = some (.lst zs) → Q (.ref l) H'
theorem fn_Work_left (B : Bk w K mg) {fd : FuncData} (F : FunD K "left" "Work.left" (defArgs s_Work_left) (defBody s_Work_left) (defScope s_Work_left) [] [] (He.ma K (He.ga K "Work") "left") fd) : FnOk P w K mg base C8.CX0 2 (He.ma K (He.ga K "Work") "left") fd ["self", "hole"] (sp_Work_left K) := by
  refine fokD F sc_Work_left (fun vs H Q E h => ?_) (fun cdv A outer s H vs Q E hr h => ?_)
  · obtain ⟨a, L, g, v, x, zs, D, S, h, rfl, _⟩ := h
    rfl
  · obtain ⟨a, L, g, v, x, zs, D, S, h, rfl, hW, e1, e2, e3, hL, kq⟩ := h
    have hW' := hW
    obtain ⟨⟨dx, ha⟩, hg, hd, hl, hm, _⟩ := hW'
    have cG := c_Work B
    have n1 := n_Work_kept_left B
    have hu := hu_of hr
    refine ⟨_, (pss_cons (ps_expr (C8.pe_mt (ok_need_hole B) hr (by decide) (pv 0) (pa_cons (pv 1) (pa_cons pe_bl pa_nil))))
      (pss_one (ps_ret (pe_callTy call_listOf (by rfl) (b_list B) (by decide +kernel) (pa_cons (pe_dget hu (pe_fld (pv 0) rfl) (pv 1) (fun _ _ => rfl)) pa_nil))))), ?_⟩
    walk_at "rd"
    refine q_need_hole (K := K) hW e1 e2 rfl ?_
    walk_at "rd"
    exact kq _ _ (by walk_at "sm") (by walk_at "hp")
end
end
end Kx
namespace Kx
open PySem PySem.Spec PyProof.Rows L2
section
local macro_rules | `(tactic| walk_at "hp") => `(tactic| first
  | assumption
  | exact upd_same
  | (refine' same_new (by assumption) _ _ ?_; walk_at "hp")
  | ((with_reducible apply SqT.of); walk_at "hp") | ((with_reducible apply SqL.of); walk_at "hp")
  | (refine' (show Same _ _ by assumption) _ _ ?_; walk_at "hp")
  | (refine' same_seqT (same_new (by assumption)) ?_; walk_at "hp")
  | (refine' Same.seq (same_new (by assumption)) ?_; walk_at "hp")
  | (refine' same_seqT (show Same _ _ by assumption) ?_; walk_at "hp")
  | (refine' Same.seq (show Same _ _ by assumption) ?_; walk_at "hp"))
local macro_rules | `(tactic| walk_at "sm") => `(tactic| first
  | assumption | exact Same.refl _
  | (refine' Same.trans ?_ (same_new (by assumption)); walk_at "sm")
  | (refine' Same.trans ?_ (show Same _ _ by assumption); walk_at "sm"))
local macro_rules | `(tactic| walk_at "ar") => `(tactic| first | assumption | omega | (simp only [List.length_cons, List.length_nil, List.length_append]; omega))
local macro_rules | `(tactic| walk_at "dt") => `(tactic| first | assumption | exact decide_eq_true (by walk_at "ar") | exact r_nd (decide_eq_false (by walk_at "ar")) | decide +kernel | rfl)
local macro_rules | `(tactic| walk_at "df") => `(tactic| first | assumption | exact decide_eq_false (by walk_at "ar") | exact r_nt (decide_eq_true (by walk_at "ar")) | decide +kernel | rfl)
local macro_rules | `(tactic| walk_at "rd1") => `(tactic| first
  | with_reducible refine iteT ?_
  | with_reducible refine iteF ?_
  | with_reducible refine iteNT ?_
  | with_reducible refine iteNF ?_
  | with_reducible refine r_seq ?_
  | with_reducible refine r_ret ?_
  | with_reducible refine r_retN ?_
  | with_reducible refine r_set ?_
  | with_reducible refine r_ifS ?_
  | with_reducible refine r_drop ?_
  | with_reducible refine r_next ?_
  | with_reducible refine r_c ?_
  | with_reducible refine r_cb ?_
  | with_reducible refine r_op ?_
  | with_reducible refine r_nil ?_
  | with_reducible refine r_cons ?_
  | with_reducible refine r_call ?_
  | with_reducible refine r_and ?_
  | with_reducible refine r_or ?_
  | with_reducible refine r_not ?_
  | with_reducible refine r_if ?_
  | with_reducible refine r_tb ?_
  | with_reducible refine r_test ?_
  | with_reducible refine r_tnot ?_
  | with_reducible refine r_tand ?_
  | with_reducible refine r_tor ?_
  | with_reducible refine r_bl ?_
  | with_reducible refine r_chain ?_
  | with_reducible refine r_i0 ?_
  | with_reducible refine r_eqI ?_
  | with_reducible refine r_eqS ?_
  | with_reducible refine r_neI ?_
  | with_reducible refine r_neS ?_
  | with_reducible refine r_neB ?_
  | with_reducible refine r_isi_int ?_
  | with_reducible refine r_isi_int_bool ?_
  | with_reducible refine r_isi_str ?_
  | with_reducible refine r_tup ?_
  | with_reducible refine r_lst ?_
  | ((with_reducible refine' r_var ?h1 ?_); (case h1 => rfl))
  | ((with_reducible refine' iteOf ?h1 ?_); (case h1 => walk_at "dt"))
  | ((with_reducible refine' iteOff ?h1 ?_); (case h1 => walk_at "df"))
  | ((with_reducible refine' r_lenS ?h1 ?_); (case h1 => first | assumption | exact small_le (by walk_at "ar")))
  | ((with_reducible refine' r_inT ?h1 ?h2 ?h3 ?_); (case h1 => walk_at "hp"); (case h2 => rfl); (case h3 => rfl))
  | ((with_reducible refine' r_notInD ?h1 ?h2 ?_); (case h1 => assumption); (case h2 => assumption))
  | ((with_reducible refine' r_ixD ?h1 ?h2 ?h3 ?_); (case h1 => assumption); (case h2 => assumption); (case h3 => assumption))
  | with_reducible refine r_sl ?_ | with_reducible refine r_part ?_ | with_reducible refine r_nopart ?_
  | ((with_reducible refine' r_slT1 ?h1 ?_); (case h1 => walk_at "hp")) | ((with_reducible refine' r_gTup2 ?h1 ?_); (case h1 => walk_at "hp"))
  | with_reducible refine r_al (fun _ _ => ?_) | ((with_reducible refine r_le ?h1 ?_); (case h1 => walk_at "ar"))
  | with_reducible refine r_max ?_ | with_reducible refine r_inS ?_ | with_reducible refine r_isNN ?_ | with_reducible refine r_isNR ?_ | with_reducible refine r_notNN ?_ | with_reducible refine r_notNR ?_
  | ((with_reducible refine' r_listL ?h1 ?_); (case h1 => walk_at "hp")) | ((with_reducible refine' r_listT ?h1 ?_); (case h1 => walk_at "hp"))
  | ((with_reducible refine' r_tupL ?h1 ?_); (case h1 => walk_at "hp")) | ((with_reducible refine' r_tupT ?h1 ?_); (case h1 => walk_at "hp"))
  | with_reducible refine r_lc ?_ | with_reducible refine r_iStr ?_ | with_reducible refine r_for ?_ | with_reducible refine r_iList ?_ | with_reducible refine r_iTup ?_ | with_reducible refine r_iEnum ?_ | with_reducible refine r_iZipS ?_ | with_reducible refine r_gName ?_
  | with_reducible refine ⟨_, rfl, ?_⟩
  | ((with_reducible refine' r_isi_tup ?h1 ?_); (case h1 => walk_at "hp"))
  | ((with_reducible refine' r_lenT ?h1 ?_); (case h1 => walk_at "hp")) | ((with_reducible refine' r_lenL ?h1 ?_); (case h1 => walk_at "hp"))
  | ((with_reducible refine' r_ixT0 ?h1 ?h2 ?_); (case h1 => walk_at "hp"); (case h2 => rfl))
  | ((with_reducible refine' r_ixL0 ?h1 ?h2 ?_); (case h1 => walk_at "hp"); (case h2 => rfl))
  | ((with_reducible refine' r_ixT1 ?h1 ?h2 ?_); (case h1 => walk_at "hp"); (case h2 => rfl))
  | ((with_reducible refine' r_ixL1 ?h1 ?h2 ?_); (case h1 => walk_at "hp"); (case h2 => rfl))
  | ((with_reducible refine' r_ixT2 ?h1 ?h2 ?_); (case h1 => walk_at "hp"); (case h2 => rfl))
  | ((with_reducible refine' r_ixL2 ?h1 ?h2 ?_); (case h1 => walk_at "hp"); (case h2 => rfl))
  | ((with_reducible refine' r_ixT3 ?h1 ?h2 ?_); (case h1 => walk_at "hp"); (case h2 => rfl))
  | ((with_reducible refine' r_ixL3 ?h1 ?h2 ?_); (case h1 => walk_at "hp"); (case h2 => rfl)))
local macro_rules | `(tactic| walk_at "rd") => `(tactic| repeat walk_at "rd1")
local macro_rules | `(tactic| walk_at "tm") => `(tactic| first
  | assumption
  | ((with_reducible refine' Tm.same ?s1 ?s2); (case s2 => assumption); (case s1 => walk_at "sm"))
  | ((with_reducible refine' Gr.same ?s1 ?s2); (case s2 => assumption); (case s1 => walk_at "sm"))
  | ((with_reducible refine' RowOk.same ?s1 ?s2); (case s2 => assumption); (case s1 => walk_at "sm")))
local macro_rules | `(tactic| walk_at "rd1") => `(tactic| first
  | with_reducible refine r_sm (fun _ _ => ?_)
  | with_reducible refine r_sm2 (fun _ _ _ _ => ?_)
  | with_reducible refine r_meth ?_
  | with_reducible refine r_fld ?_
  | ((with_reducible refine' r_callL ?h1 ?_); (case h1 => rfl))
  | ((with_reducible refine' q_is_term ?h1 ?h2 ?h3 ?_); (case h1 => walk_at "tm"); (case h2 => first | assumption | trivial); (case h3 => first | assumption | decide))
  | ((with_reducible refine' q_need_term ?h1 ?h2 ?h3 ?_); (case h1 => walk_at "tm"); (case h2 => first | assumption | trivial); (case h3 => first | assumption | decide))
  | ((with_reducible refine' q_is_name ?h1 ?_); (case h1 => assumption))
  | ((with_reducible refine' q_row ?h1 ?_); (case h1 => walk_at "tm"))
  | ((with_reducible refine' q_has0 ?h1 ?_); (case h1 => walk_at "tm"))
  | ((with_reducible refine' q_has1 ?h1 ?_); (case h1 => walk_at "tm"))
  | ((with_reducible refine' q_told ?h1 ?_); (case h1 => walk_at "tm"))
  | ((with_reducible refine' q_row_of ?h1 ?_); (case h1 => walk_at "tm"))
  | ((with_reducible refine' r_asGr ?h1 ?h2 ?h3 ?_); (case h1 => walk_at "tm"); (case h2 => decide); (case h3 => decide))
  | ((with_reducible refine' r_inm ?h1 ?h2 ?_); (case h1 => walk_at "hp"); (case h2 => rfl))
  | ((with_reducible refine' r_ifd ?h1 ?h2 ?h3 ?h4 ?_); (case h3 => walk_at "hp"); (case h4 => rfl); (case h1 => assumption); (case h2 => assumption)))
local macro_rules | `(tactic| walk_at "dp") => `(tactic| first
  | assumption
  | exact Dp.non | exact Dp.bl _ | exact Dp.int _ | exact Dp.str _ | exact DpAll.nil
  | ((with_reducible refine' DpAll.cons ?s1 ?s2); (case s1 => walk_at "dp"); (case s2 => walk_at "dp"))
  | ((with_reducible refine' Tm.dp ?s1); (case s1 => walk_at "tm"))
  | ((with_reducible refine' Dp.lst ?s1 ?s2); (case s1 => walk_at "hp"); (case s2 => walk_at "dp"))
  | ((with_reducible refine' Dp.tup ?s1 ?s2); (case s1 => walk_at "hp"); (case s2 => walk_at "dp")))
local macro_rules | `(tactic| walk_at "rd1") => `(tactic| first
  | ((with_reducible refine' r_eqDv ?h1 ?h2 ?h3 ?h4 ?_); (case h1 => walk_at "dp"); (case h2 => walk_at "dp"); (case h3 => first | assumption | rfl); (case h4 => first | assumption | rfl))
  | ((with_reducible refine' r_neDv ?h1 ?h2 ?h3 ?h4 ?_); (case h1 => walk_at "dp"); (case h2 => walk_at "dp"); (case h3 => first | assumption | rfl); (case h4 => first | assumption | rfl)))
local macro_rules | `(tactic| walk_at "vv") => `(tactic| first | assumption | exact valV_nil | exact valV_pos rfl | ((refine' (valV_neg ?n1).trans ?n2); (case n1 => first | decide | simp); (case n2 => walk_at "vv")))
local macro_rules | `(tactic| walk_at "rd1") => `(tactic| first
  | with_reducible refine r_din ?_ | with_reducible refine r_dnin ?_ | with_reducible refine r_dget ?_ | with_reducible refine r_dput ?_ | with_reducible refine r_dnew ?_
  | ((with_reducible refine' r_dinS ?h1 ?h2 ?_); (case h1 => walk_at "hp"); (case h2 => walk_at "vv"))
  | ((with_reducible refine' r_dinI ?h1 ?h2 ?_); (case h1 => walk_at "hp"); (case h2 => walk_at "vv"))
  | ((with_reducible refine' r_dgetS ?h1 ?h2 ?_); (case h1 => walk_at "hp"); (case h2 => walk_at "vv"))
  | ((with_reducible refine' r_dgetI ?h1 ?h2 ?_); (case h1 => walk_at "hp"); (case h2 => walk_at "vv"))
  | ((with_reducible refine' r_dputS ?h1 ?h2 ?_); (case h1 => walk_at "hp"); (case h2 => walk_at "ar"))
  | ((with_reducible refine' r_dputI ?h1 ?h2 ?_); (case h1 => walk_at "hp"); (case h2 => walk_at "ar"))
  | ((with_reducible refine' r_isiLT ?h1 ?h2 ?_); (case h1 => walk_at "hp"); (case h2 => walk_at "hp"))
  | ((with_reducible refine' r_isiLT' ?h1 ?h2 ?_); (case h1 => walk_at "hp"); (case h2 => walk_at "hp")))
local macro_rules | `(tactic| walk_at "rd1") => `(tactic| first
  | with_reducible refine r_sfld ?_
  | ((with_reducible refine' r_ifs ?h1 ?h2 ?h3 ?h4 ?_); (case h1 => walk_at "hp"); (case h2 => assumption); (case h3 => assumption); (case h4 => walk_at "ar"))
  | ((with_reducible refine' r_isGr ?h1 ?_); (case h1 => walk_at "tm"))
  | ((with_reducible refine' r_catL ?h1 ?h2 ?h3 ?_); (case h1 => walk_at "hp"); (case h2 => walk_at "hp"); (case h3 => walk_at "ar")))
local macro_rules | `(tactic| walk_at "tm") => `(tactic| first
  | ((with_reducible refine' Lk.same ?s1 ?s2); (case s2 => assumption); (case s1 => walk_at "sm"))
  | ((with_reducible refine' Rm.same ?s1 ?s2); (case s2 => assumption); (case s1 => walk_at "sm")))
local macro_rules | `(tactic| walk_at "fl") => `(tactic| first
  | walk_at "ar" | ((with_reducible refine putF_lt ?_); walk_at "fl"))
local macro_rules | `(tactic| walk_at "rd1") => `(tactic| first
  | ((with_reducible refine' r_ifs ?h1 ?h2 ?h3 ?h4 ?_); (case h1 => walk_at "hp"); (case h2 => assumption); (case h3 => assumption); (case h4 => walk_at "fl")))
section
variable {P : Program} {w : World} {K : PySem.W.Frag} {mg : Str → Option Value} {base : Heap}
/-- the numbers that stand under h in a table of lists -/
def Bene (H : Hp) (left : List (Key × V)) (h : Int) (cs : List Int) : Prop := (valV left (.inl h) = none ∧ cs = []) ∨ ∃ L, valV left (.inl h) = some (.ref L) ∧ H L = some (.lst (cs.map V.int))
theorem sc_Work_beneath : FnScope ["self", "hole", "found", "waiting", "here"] ["self", "hole"] (defScope s_Work_beneath) := ⟨rfl, rfl, rfl, by decide +kernel, rfl, by decide +kernel, by decide +kernel⟩
def sp_beneath (K : PySem.W.Frag) : Sp := fun vs H Q _ => ∃ (a : Addr) (g : V) (D : WD) (S : WS) (h : Int) (xs : List Int), vs = [.ref a, .int h] ∧ Wk K H a g D S ∧ xs[0]? = some h ∧ xs.length ≤ 10 ∧ (∀ i x, xs[i]? = some x → Bene H S.left x (xs[i + 1]?).toList) ∧
  ∀ L H', Same H H' → H' L = some (.lst (xs.map V.int)) → Q (.ref L) H'
theorem r_while {c : L2.TT} {tb : TS} {D : Ends} {σ : L2.St} {H : Hp} (h : ∃ W : Nat → L2.St → Hp → Prop, (∃ m, W m σ H) ∧ ∀ m σ H, W m σ H →
  c σ H fun b H1 => if b = true then ∃ N : L2.St → Hp → Prop, (∀ σ' H', N σ' H' → ∃ m', m' < m ∧ W m' σ' H') ∧ tb { D with nx := N, ct := N, bk := D.nx } σ H1 else D.nx σ H1) : tWhile c tb D σ H := h
theorem r_revL {te : TE} {σ : L2.St} {H : Hp} {Q : VK} (h : te σ H fun x H1 => ∃ a xs, x = .ref a ∧ SqL K H1 a xs ∧ ∀ p, H1 p = none → Q (.ref p) (upd H1 p (.lst xs.reverse))) : tRevL K te σ H Q := h
theorem r_dget2 {td ty tx : TE} {σ : L2.St} {H : Hp} {Q : VK} (h : td σ H fun x H1 => ∃ a, x = .ref a ∧ IsD H1 a ∧ ty σ H1 fun y H2 => tx σ H2 fun z H3 => ∃ o, DGet H3 a y o ∧ Q (o.getD z) H3) : tDGet2 td ty tx σ H Q := h
theorem r_bm {T : String} {r : V → List V → Hp → VK → Prop} {to : TE} {t : TA} {σ : L2.St} {H : Hp} {Q : VK} (h : to σ H fun x H1 => tyV K T x H1 ∧ t σ H1 fun xs H2 => r x xs H2 Q) : tBM K T r to t σ H Q := h
theorem r_bm0 {T : String} {r : V → List V → Hp → VK → Prop} {to : TE} {σ : L2.St} {H : Hp} {Q : VK} (h : to σ H fun x H1 => tyV K T x H1 ∧ r x [] H1 Q) : tBM0 K T r to σ H Q := h
theorem ok_beneath (B : Bk w K mg) : C8.Met P w K mg base 1 (He.ga K "Work") "beneath" (sp_beneath K) [] := by
  obtain ⟨fd, F⟩ := D_Work_beneath B
  refine metD (c_Work B) (m_Work_beneath B) F sc_Work_beneath (fun _ _ _ _ _ _ us hl => match us, hl with | [_, _], _ => rfl) (fun vs H Q E h => ?_) (fun cdv A outer s H vs Q E hr h => ?_)
  · obtain ⟨a, g, D, S, h, xs, rfl, _⟩ := h
    rfl
  · obtain ⟨a, g, D, S, h, xs, rfl, hW, h0, hlen, hben, kq⟩ := h
    obtain ⟨⟨dx, ha⟩, hg, hd, hl, hm, _⟩ := hW
    have cG := c_Work B
    have n1 := n_Work_kept_left B
    have hu := hu_of hr
    refine ⟨_, (pss_cons (ps_set (i := 2) sc_Work_beneath.nd rfl (Or.inl rfl) (pe_lst pa_nil))
      (pss_cons (ps_set (i := 3) sc_Work_beneath.nd rfl (Or.inl rfl) (pe_lst (pa_cons (pv 1) pa_nil)))
      (pss_cons (ps_while PassesOwn.never (pt_cmpR (op_neD hr.units) (pv 3) (pe_lst pa_nil) (nomark _)) (pss_cons (ps_set (i := 4) sc_Work_beneath.nd rfl (Or.inl rfl) (pe_bm0 PySem.F.plainAttrs_list PySem.F.slot_list_pop PySem.F.type_list_pop mt_pop (pv 3)))
      (pss_cons (ps_expr (pe_bm PySem.F.plainAttrs_list PySem.F.slot_list_append PySem.F.type_list_append mt_append (pv 2) (pa_cons (pv 4) pa_nil)))
      (pss_one (ps_expr (pe_bm PySem.F.plainAttrs_list PySem.F.slot_list_extend PySem.F.type_list_extend mt_extend (pv 3) (pa_cons (pe_revL (pe_dget2 hu (pe_fld (pv 0) rfl) (pv 4) (pe_lst pa_nil) ⟨rfl, rfl, rfl, rfl⟩)) pa_nil)))))))
      (pss_one (ps_ret (pv 2)))))), ?_⟩
    walk_at "rd"
    rename_i fo nfo wa nwa
    have nwa' := updN nwa
    have fw : fo ≠ wa := fun z => by
      rw [← z, upd_same] at nwa
      cases nwa
    have t0 : (xs[0]?).toList.map V.int = [V.int h] := by rw [h0] <;> rfl
    refine r_while ⟨fun m σ' H' => ∃ i hv, i + m = xs.length ∧ σ' = [some (.ref a), some (.int h), some (.ref fo), some (.ref wa), hv] ∧ Same H H' ∧ H' fo = some (.lst ((xs.take i).map V.int)) ∧ H' wa = some (.lst ((xs[i]?).toList.map V.int)),
      ⟨xs.length, 0, none, by omega, rfl, by walk_at "sm", by rw [upd_ne fw, upd_same]; simp, by rw [upd_same, t0]⟩, ?_⟩
    rintro m σ' H' ⟨i, hv, him, rfl, s1, hfo, hwa⟩
    cases m with
    | zero =>
      have e : xs[i]? = none := List.getElem?_eq_none_iff.mpr (by omega)
      have hwa' : H' wa = some (.lst []) := by rw [hwa, e] <;> rfl
      have ei : xs.take i = xs := List.take_of_length_le (by omega)
      rw [ei] at hfo
      walk_at "rd"
      exact kq _ _ (by walk_at "sm") (by walk_at "hp")
    | succ m =>
      obtain ⟨x, hx⟩ : ∃ x, xs[i]? = some x := ⟨_, List.getElem?_eq_getElem (by omega)⟩
      have hwa' : H' wa = some (.lst [.int x]) := by rw [hwa, hx] <;> rfl
      have hb := hben i x hx
      walk_at "rd"
      refine ⟨fun σ2 H2 => ∃ hv, σ2 = [some (.ref a), some (.int h), some (.ref fo), some (.ref wa), hv] ∧ Same H H2 ∧ H2 fo = some (.lst ((xs.take (i + 1)).map V.int)) ∧ H2 wa = some (.lst ((xs[i + 1]?).toList.map V.int)), fun σ2 H2 ⟨hv, e, q⟩ => ⟨m, by omega, i + 1, hv, by omega, e, q⟩, ?_⟩
      walk_at "rd"
      rename_i p np
      have s2 : Same H (upd H' p (.lst [])) := by walk_at "sm"
      have hfo2 : (upd H' p (.lst [])) fo = some (.lst ((xs.take i).map V.int)) := by walk_at "hp"
      have hwa2 : (upd H' p (.lst [])) wa = some (.lst [.int x]) := by walk_at "hp"
      generalize upd H' p (.lst []) = H2 at s2 hfo2 hwa2 ⊢
      refine r_bm0 ?_
      walk_at "rd"
      refine ⟨.inl ⟨rfl, _, SqL.of hwa2⟩, wa, [.int x], .int x, rfl, rfl, hwa2, rfl, ?_⟩
      walk_at "rd"
      have s3 : Same H (upd H2 wa (.lst [])) := same_putnew s2 nwa'
      have hfo3 : (upd H2 wa (.lst [])) fo = some (.lst ((xs.take i).map V.int)) := by rw [upd_ne fw]; exact hfo2
      have hwa3 : (upd H2 wa (.lst [])) wa = some (.lst []) := upd_same
      have e0 : ([V.int x] : List V).dropLast = [] := rfl
      rw [e0]
      generalize upd H2 wa (.lst []) = H3 at s3 hfo3 hwa3 ⊢
      refine r_bm ?_
      walk_at "rd"
      refine ⟨.inl ⟨rfl, _, SqL.of hfo3⟩, ?_⟩
      walk_at "rd"
      have hlt : (xs.take i).length ≤ 10 := by rw [List.length_take]; omega
      refine ⟨fo, _, .int x, rfl, rfl, hfo3, Nat.lt_of_le_of_lt (by rw [List.length_map]; exact hlt) (by decide), ?_⟩
      walk_at "rd"
      have e1 : (xs.take i).map V.int ++ [V.int x] = (xs.take (i + 1)).map V.int := by
        rw [List.take_add_one, hx]
        simp
      rw [e1]
      have s4 : Same H (upd H3 fo (.lst ((xs.take (i + 1)).map V.int))) := same_putnew s3 nfo
      have hfo4 : (upd H3 fo (.lst ((xs.take (i + 1)).map V.int))) fo = some (.lst ((xs.take (i + 1)).map V.int)) := upd_same
      have hwa4 : (upd H3 fo (.lst ((xs.take (i + 1)).map V.int))) wa = some (.lst []) := by rw [upd_ne fw.symm]; exact hwa3
      generalize upd H3 fo (.lst ((xs.take (i + 1)).map V.int)) = H4 at s4 hfo4 hwa4 ⊢
      refine r_bm ?_
      walk_at "rd"
      refine ⟨.inl ⟨rfl, _, SqL.of hwa4⟩, ?_⟩
      have ha4 := s4 _ _ ha
      have hl4 := s4 _ _ hl
      walk_at "rd"
      refine r_revL ?_
      refine r_dget2 ?_
      walk_at "rd"
      refine ⟨.inl ⟨_, .inl hl4⟩, ?_⟩
      walk_at "rd"
      rename_i p2 np2
      have s5 : Same H4 (upd H4 p2 (.lst [])) := same_new np2
      have hl5 := s5 _ _ hl4
      have hp5 : (upd H4 p2 (.lst [])) p2 = some (.lst []) := upd_same
      have hfo5 := s5 _ _ hfo4
      have hwa5 := s5 _ _ hwa4
      have s45 := s4.trans s5
      generalize upd H4 p2 (.lst []) = H5 at s5 hl5 hp5 hfo5 hwa5 s45 ⊢
      have fin : ∀ (zs : List V) (p3 : Addr) (H6 : Hp), Same H5 H6 → H6 p3 = some (.lst zs) → zs = (xs[i + 1]?).toList.map V.int → (Same H (upd H6 wa (.lst ([] ++ zs))) ∧ (upd H6 wa (.lst ([] ++ zs))) fo = some (.lst ((xs.take (i + 1)).map V.int)) ∧ (upd H6 wa (.lst ([] ++ zs))) wa = some (.lst ((xs[i + 1]?).toList.map V.int))) := fun zs p3 H6 s6 h3 e => by
        refine ⟨same_putnew (s45.trans s6) nwa', ?_, ?_⟩
        · rw [upd_ne fw]
          exact s6 _ _ hfo5
        · rw [upd_same, List.nil_append, e]
      have hrev : ∀ o : Option Int, (o.toList.map V.int).reverse = o.toList.map V.int := fun o => by cases o <;> rfl
      have hle : ∀ o : Option Int, (o.toList.map V.int).length ≤ 1 := fun o => by cases o <;> simp
      rcases hb with ⟨e2, e3⟩ | ⟨L, e2, hL⟩
      · refine ⟨none, e2 ▸ DGet.k (k := .inl x) hl5, p2, [], rfl, SqL.of hp5, ?_⟩
        walk_at "rd"
        rename_i p3 np3
        refine ⟨wa, p3, [], [], rfl, rfl, by walk_at "hp", by exact upd_same, by decide, ?_⟩
        walk_at "rd"
        exact fin [] p3 _ (same_new np3) upd_same (by rw [e3] <;> rfl)
      · have hL5 := s45 _ _ hL
        refine ⟨some (.ref L), e2 ▸ DGet.k (k := .inl x) hl5, L, _, rfl, SqL.of hL5, ?_⟩
        walk_at "rd"
        rename_i p3 np3
        refine ⟨wa, p3, [], _, rfl, rfl, by walk_at "hp", by exact upd_same, small_le (by rw [hrev]; have := hle xs[i + 1]?; simp only [List.length_nil]; omega), ?_⟩
        walk_at "rd"
        exact fin _ p3 _ (same_new np3) upd_same (hrev _)
end
section
variable {P : Program} {w : World} {K : PySem.W.Frag} {mg : Str → Option Value} {base : Heap}
/-- what is asked of a comprehension with a test when its iterator J has come -/
def LcGoT (g : TG) (tt : L2.TT) (te : TE) (vs : List Nat) (σ : L2.St) (Q : VK) (J : It) (H : Hp) : Prop :=
    ∀ L, H L = none → ∃ W : Nat → Nat → Hp → Prop, (∃ m, W 0 m (upd H L (.lst []))) ∧ ∀ i m H, W i m H →
      (J.stop i H ∧ Q (.ref L) H) ∨ (J.go i H ∧ ∃ Nx : Hp → Prop, (∀ H', Nx H' → ∃ m', m' < m ∧ W (i + 1) m' H') ∧ ∀ x H', J.yld i H x H' → g x (wipe σ vs) H' fun σ2 H2 => wipe σ2 vs = wipe σ vs ∧ tt σ2 H2 fun b H3 =>
        if b = true then te σ2 H3 fun y H4 => ∃ acc, H4 L = some (.lst acc) ∧ acc.length < sizeLine ∧ Nx (upd H4 L (.lst (acc ++ [y]))) else Nx H3)
theorem r_lcT {wi : TI} {g : TG} {tt : L2.TT} {te : TE} {vs : List Nat} {σ : L2.St} {H : Hp} {Q : VK} (h : wi σ H (LcGoT g tt te vs σ Q)) : tLc wi g tt te vs σ H Q := h
theorem q_beneath {H : Hp} {Q : VK} {E : XK} {a : Addr} {g : V} {D : WD} {S : WS} {h : Int} {xs : List Int} (h1 : Wk K H a g D S) (h2 : xs[0]? = some h) (h3 : xs.length ≤ 10) (h4 : ∀ i x, xs[i]? = some x → Bene H S.left x (xs[i + 1]?).toList)
    (k : ∀ L H', Same H H' → H' L = some (.lst (xs.map V.int)) → Q (.ref L) H') : sp_beneath K (.ref a :: ([.int h] ++ [])) H Q E := ⟨a, g, D, S, h, xs, rfl, h1, h2, h3, h4, k⟩
def sp_holes (K : PySem.W.Frag) : Sp := fun vs H Q _ => ∃ (a : Addr) (g : V) (D : WD) (S : WS) (xs : List Int), vs = [.ref a] ∧ Wk K H a g D S ∧ xs[0]? = some 0 ∧ xs.length ≤ 10 ∧ (∀ i x, xs[i]? = some x → Bene H S.left x (xs[i + 1]?).toList) ∧
  ∀ L H', Same H H' → H' L = some (.lst ((xs.filter fun x => (valV S.deeds (.inl x)).isNone).map V.int)) → Q (.ref L) H'
theorem sc_Work_holes : FnScope ["self", "hole"] ["self"] (defScope s_Work_holes) := ⟨rfl, rfl, rfl, by decide +kernel, rfl, by decide +kernel, by decide +kernel⟩
theorem ok_holes (B : Bk w K mg) : C8.Met P w K mg base 2 (He.ga K "Work") "holes" (sp_holes K) [] := by
  obtain ⟨fd, F⟩ := D_Work_holes B
  refine metD (c_Work B) (m_Work_holes B) F sc_Work_holes (fun _ _ _ _ _ _ us hl => match us, hl with | [_], _ => rfl) (fun vs H Q E h => ?_) (fun cdv A outer s H vs Q E hr h => ?_)
  · obtain ⟨a, g, D, S, xs, rfl, _⟩ := h
    rfl
  · obtain ⟨a, g, D, S, xs, rfl, hW, h0, hlen, hben, kq⟩ := h
    have hW' := hW
    obtain ⟨⟨dx, ha⟩, hg, hd, hl, hm, _⟩ := hW'
    have cG := c_Work B
    have n1 := n_Work_kept_deeds B
    have hu := hu_of hr
    refine ⟨_, (pss_one (ps_ret (pe_lc (own := [("hole", 1)]) (tt := L2.tB (tDNotIn (tVar 1) (tFld K (tVar 0) "kept_deeds"))) rfl sc_Work_holes.nd (pi_list (C8.pe_mt (ok_beneath B) hr (by decide) (pv 0) (pa_cons pe_int pa_nil))) (blkOk_by (N := ["self", "hole"]) (sc := defScope s_Work_holes) (by decide +kernel)) (fun _ _ _ _ _ => (pg_name (i := 1) sc_Work_holes.nd rfl (Or.inl rfl))) (fun _ _ _ _ _ => pts_one (pt_cmp (pc_dnotin hu (pv 1) (pe_fldK (K0 := K) rfl (pv 0) rfl)))) (fun _ _ _ _ _ => (pv 1))))), ?_⟩
    walk_at "rd"
    refine r_lcT ?_
    walk_at "rd"
    refine q_beneath (K := K) hW h0 hlen hben (fun l H1 s1 hl1 => ?_)
    refine ⟨l, rfl, ⟨_, SqL.of hl1⟩, fun L hL => ⟨fun i m H' => Same H1 H' ∧ i + m = xs.length ∧ H' L = some (.lst (((xs.take i).filter fun x => (valV S.deeds (.inl x)).isNone).map V.int)), ⟨xs.length, same_new hL, by omega, by rw [upd_same]; simp⟩, ?_⟩⟩
    rintro i m H2 ⟨s2, him, hL2⟩
    have hl2 := s2 _ _ hl1
    cases m with
    | zero =>
      have ei : xs.take i = xs := List.take_of_length_le (by omega)
      rw [ei] at hL2
      exact .inl ⟨⟨_, SqL.of hl2, by rw [List.length_map]; omega⟩, kq _ _ (s1.trans s2) hL2⟩
    | succ m =>
      obtain ⟨x, hx⟩ : ∃ x, xs[i]? = some x := ⟨_, List.getElem?_eq_getElem (by omega)⟩
      have hx' : (xs.map V.int)[i]? = some (.int x) := by rw [List.getElem?_map, hx] <;> rfl
      refine .inr ⟨⟨_, _, SqL.of hl2, hx'⟩, fun H' => Same H1 H' ∧ (i + 1) + m = xs.length ∧ H' L = some (.lst (((xs.take (i + 1)).filter fun x => (valV S.deeds (.inl x)).isNone).map V.int)), fun H' q => ⟨m, by omega, q⟩, fun y H3 hy => ?_⟩
      obtain ⟨rfl, e⟩ := itl_eq hy (SqL.of hl2)
      rw [hx'] at e
      cases e
      have s12 := s1.trans s2
      have ha3 := s12 _ _ ha
      have hd3 := s12 _ _ hd
      have et : (xs.take (i + 1)).filter (fun x => (valV S.deeds (.inl x)).isNone) = (xs.take i).filter (fun x => (valV S.deeds (.inl x)).isNone) ++ (if (valV S.deeds (.inl x)).isNone = true then [x] else []) := by
        rw [List.take_add_one, hx, List.filter_append]
        congr 1
        simp [List.filter_cons]
      walk_at "rd"
      refine ⟨rfl, ?_⟩
      walk_at "rd"
      refine r_dinI (o := valV S.deeds (.inl x)) hd3 rfl ?_
      cases hv : valV S.deeds (.inl x) with
      | none =>
        rw [hv] at et
        walk_at "rd"
        refine ⟨_, hL2, Nat.lt_of_le_of_lt (Nat.le_trans (by rw [List.length_map]; exact List.length_filter_le _ _) (by rw [List.length_take]; omega : (xs.take i).length ≤ 10)) (by decide), ?_⟩
        refine ⟨same_putnew s2 hL, by omega, ?_⟩
        rw [upd_same, et]
        simp
      | some v =>
        rw [hv] at et
        walk_at "rd"
        refine ⟨s2, by omega, ?_⟩
        rw [hL2, et]
        simp
theorem q_holes {H : Hp} {Q : VK} {E : XK} {a : Addr} {g : V} {D : WD} {S : WS} {xs : List Int} (h1 : Wk K H a g D S) (h2 : xs[0]? = some 0) (h3 : xs.length ≤ 10) (h4 : ∀ i x, xs[i]? = some x → Bene H S.left x (xs[i + 1]?).toList)
    (k : ∀ L H', Same H H' → H' L = some (.lst ((xs.filter fun x => (valV S.deeds (.inl x)).isNone).map V.int)) → Q (.ref L) H') : sp_holes K (.ref a :: ([] ++ [])) H Q E := ⟨a, g, D, S, xs, rfl, h1, h2, h3, h4, k⟩
end
section
variable {P : Program} {w : World} {K : PySem.W.Frag} {mg : Str → Option Value} {base : Heap}
theorem sc_Work_len : FnScope ["self"] ["self"] (defScope s_Work_len) := ⟨rfl, rfl, rfl, by decide +kernel, rfl, by decide +kernel, by decide +kernel⟩
def sp_Work_len (K : PySem.W.Frag) : Sp := fun vs H Q _ => ∃ (a : Addr) (g : V) (D : WD) (S : WS) (xs : List Int), vs = [.ref a] ∧ Wk K H a g D S ∧ xs[0]? = some 0 ∧ xs.length ≤ 10 ∧ (∀ i x, xs[i]? = some x → Bene H S.left x (xs[i + 1]?).toList) ∧
  ∀ H', Same H H' → Q (.int (xs.filter fun x => (valV S.deeds (.inl x)).isNone).length) H'
theorem fn_Work_len (B : Bk w K mg) {fd : FuncData} (F : FunD K "__len__" "Work.__len__" (defArgs s_Work_len) (defBody s_Work_len) (defScope s_Work_len) [] [] (He.ma K (He.ga K "Work") "__len__") fd) : FnOk P w K mg base C8.CX0 3 (He.ma K (He.ga K "Work") "__len__") fd ["self"] (sp_Work_len K) := by
  refine fokD F sc_Work_len (fun vs H Q E h => ?_) (fun cdv A outer s H vs Q E hr h => ?_)
  · obtain ⟨a, g, D, S, xs, rfl, _⟩ := h
    rfl
  · obtain ⟨a, g, D, S, xs, rfl, hW, h0, hlen, hben, kq⟩ := h
    obtain ⟨dx, ha⟩ := hW.at_
    refine ⟨_, (pss_one (ps_ret (pe_callB call_lenQ (by rfl) (b_len B) (by decide +kernel) (pa_cons (C8.pe_mt0 (ok_holes B) hr (by decide) (pv 0)) pa_nil)))), ?_⟩
    walk_at "rd"
    refine q_holes (K := K) hW h0 hlen hben (fun L H1 s1 hL => ?_)
    walk_at "rd"
    rw [List.length_map]
    exact kq _ s1
def rDictC : List V → Hp → VK → Prop := fun xs H Q => ∃ (a : Addr) (kvs : List (Key × V)), xs = [.ref a] ∧ Rd H a (.dK kvs) ∧ ∀ p, H p = none → Q (.ref p) (upd H p (.dK kvs))
theorem call_dictC {X : Cx} : CallR X (.type "dict") rDictC := call_dictD
theorem r_dictC {H : Hp} {Q : VK} {a : Addr} {kvs : List (Key × V)} (h : H a = some (.dK kvs)) (k : ∀ p, H p = none → Q (.ref p) (upd H p (.dK kvs))) : rDictC [.ref a] H Q := ⟨a, kvs, rfl, .inl h, k⟩
theorem wk_ne {H : Hp} {a c : Addr} {C dx : Addr} {fs : List (Str × V)} {kvs : List (Key × V)} (h : H a = some (.ins C dx fs)) (h2 : H c = some (.dK kvs)) : c ≠ a := fun z => by
  rw [z, h] at h2
  cases h2
def sp_put_back (K : PySem.W.Frag) : Sp := fun vs H Q _ => ∃ (a b : Addr) (g g' : V) (D D' : WD) (S S' : WS) (xs : List Int), vs = [.ref a, .ref b] ∧ a ≠ b ∧ Wk K H a g D S ∧ Wk K H b g' D' S' ∧ xs[0]? = some 0 ∧ xs.length ≤ 10 ∧ (∀ i x, xs[i]? = some x → Bene H S'.left x (xs[i + 1]?).toList) ∧
  ∀ D2 L H', But a H H' → Wk K H' a g D2 S' → (∀ c ∈ D2.all, H c = none) → H' L = some (.lst ((xs.filter fun x => (valV S'.deeds (.inl x)).isNone).map V.int)) → Q (.ref L) H'
theorem sc_Work_put_back : FnScope ["self", "other"] ["self", "other"] (defScope s_Work_put_back) := ⟨rfl, rfl, rfl, by decide +kernel, rfl, by decide +kernel, by decide +kernel⟩
theorem fn_put_back (B : Bk w K mg) {fd : FuncData} (F : FunD K "put_back" "Work.put_back" (defArgs s_Work_put_back) (defBody s_Work_put_back) (defScope s_Work_put_back) [] [] (He.ma K (He.ga K "Work") "put_back") fd) : FnOk P w K mg base C8.CX0 3 (He.ma K (He.ga K "Work") "put_back") fd ["self", "other"] (sp_put_back K) := by
  refine fokD F sc_Work_put_back (fun vs H Q E h => ?_) (fun cdv A outer s H vs Q E hr h => ?_)
  · obtain ⟨a, b, g, g', D, D', S, S', xs, rfl, _⟩ := h
    rfl
  · obtain ⟨a, b, g, g', D, D', S, S', xs, rfl, hab, hW, hV, h0, hlen, hben, kq⟩ := h
    obtain ⟨⟨dx, ha0⟩, _⟩ := hW
    obtain ⟨⟨dxb, hb0⟩, hg0, hd0, hl0, hm0, _⟩ := hV
    have cG := c_Work B
    have n1 := n_Work_kept_goals B
    have n2 := n_Work_kept_deeds B
    have n3 := n_Work_kept_left B
    have n4 := n_Work_kept_makes B
    have n5 := n_Work_kept_next B
    refine ⟨_, (pss_cons (ps_fld (pv 0) (pe_callTy call_dictC (by rfl) (b_dict B) (by decide +kernel) (pa_cons (pe_fld (pv 1) rfl) pa_nil)) rfl)
      (pss_cons (ps_fld (pv 0) (pe_callTy call_dictC (by rfl) (b_dict B) (by decide +kernel) (pa_cons (pe_fld (pv 1) rfl) pa_nil)) rfl)
      (pss_cons (ps_fld (pv 0) (pe_callTy call_dictC (by rfl) (b_dict B) (by decide +kernel) (pa_cons (pe_fld (pv 1) rfl) pa_nil)) rfl)
      (pss_cons (ps_fld (pv 0) (pe_callTy call_dictC (by rfl) (b_dict B) (by decide +kernel) (pa_cons (pe_fld (pv 1) rfl) pa_nil)) rfl)
      (pss_cons (ps_fld (pv 0) (pe_fld (pv 1) rfl) rfl)
      (pss_one (ps_ret (C8.pe_mt0 (ok_holes B) hr (by decide) (pv 0))))))))), ?_⟩
    have bt0 : But a H H := fun _ _ _ e => e
    walk_at "rd"
    refine r_dictC hg0 (fun p1 np1 => ?_)
    walk_at "rd"
    refine r_ifs (K := K) (fs := wFs g D S.next) (by walk_at "hp") cG n1 (show 6 < 1000 by decide) ?_
    rw [show putF "kept_goals" (.ref p1) (wFs g D S.next) = wFs g { D with g := p1 } S.next from rfl]
    have bx1 : But a H (upd (upd H p1 (.dK S'.goals)) a (.ins (He.ga K "Work") dx (wFs g { D with g := p1 } S.next))) := (But.of (same_new np1)).trans but_upd
    have ha1 : (upd (upd H p1 (.dK S'.goals)) a (.ins (He.ga K "Work") dx (wFs g { D with g := p1 } S.next))) a = some (.ins (He.ga K "Work") dx (wFs g { D with g := p1 } S.next)) := upd_same
    have hp1_1 : (upd (upd H p1 (.dK S'.goals)) a (.ins (He.ga K "Work") dx (wFs g { D with g := p1 } S.next))) p1 = some (.dK S'.goals) := by
      rw [upd_ne (fun z => by rw [z, ha0] at np1; cases np1), upd_same]
    have tk1 : ∀ c, H c = none → c ≠ p1 → (upd (upd H p1 (.dK S'.goals)) a (.ins (He.ga K "Work") dx (wFs g { D with g := p1 } S.next))) c = none := fun c h1 h2 => by
      rw [upd_ne (fun z => by rw [z, ha0] at h1; cases h1), upd_ne h2]
      exact h1
    have fr1 : ∀ c o, H c = some o → c ≠ p1 := fun c o h => ne_of_none h np1
    have bt1 := bt0.trans bx1
    have hb1 := bx1 _ _ hab.symm hb0
    have hg1 := bx1 _ _ (wk_ne ha0 hg0) hg0
    have hd1 := bx1 _ _ (wk_ne ha0 hd0) hd0
    have hl1 := bx1 _ _ (wk_ne ha0 hl0) hl0
    have hm1 := bx1 _ _ (wk_ne ha0 hm0) hm0
    generalize (upd (upd H p1 (.dK S'.goals)) a (.ins (He.ga K "Work") dx (wFs g { D with g := p1 } S.next))) = G1 at bx1 ha1 hp1_1 bt1 hb1 hg1 hd1 hl1 hm1 tk1 fr1 ⊢
    generalize eD1 : ({ D with g := p1 } : WD) = D1 at ha1 ⊢
    walk_at "rd"
    refine r_dictC hd1 (fun p2 np2 => ?_)
    walk_at "rd"
    refine r_ifs (K := K) (fs := wFs g D1 S.next) (by walk_at "hp") cG n2 (show 6 < 1000 by decide) ?_
    rw [show putF "kept_deeds" (.ref p2) (wFs g D1 S.next) = wFs g { D1 with d := p2 } S.next from rfl]
    have bx2 : But a G1 (upd (upd G1 p2 (.dK S'.deeds)) a (.ins (He.ga K "Work") dx (wFs g { D1 with d := p2 } S.next))) := (But.of (same_new np2)).trans but_upd
    have ha2 : (upd (upd G1 p2 (.dK S'.deeds)) a (.ins (He.ga K "Work") dx (wFs g { D1 with d := p2 } S.next))) a = some (.ins (He.ga K "Work") dx (wFs g { D1 with d := p2 } S.next)) := upd_same
    have hp2_2 : (upd (upd G1 p2 (.dK S'.deeds)) a (.ins (He.ga K "Work") dx (wFs g { D1 with d := p2 } S.next))) p2 = some (.dK S'.deeds) := by
      rw [upd_ne (fun z => by rw [z, ha1] at np2; cases np2), upd_same]
    have tk2 : ∀ c, G1 c = none → c ≠ p2 → (upd (upd G1 p2 (.dK S'.deeds)) a (.ins (He.ga K "Work") dx (wFs g { D1 with d := p2 } S.next))) c = none := fun c h1 h2 => by
      rw [upd_ne (fun z => by rw [z, ha1] at h1; cases h1), upd_ne h2]
      exact h1
    have fr2 : ∀ c o, G1 c = some o → c ≠ p2 := fun c o h => ne_of_none h np2
    have bt2 := bt1.trans bx2
    have hb2 := bx2 _ _ hab.symm hb1
    have hg2 := bx2 _ _ (wk_ne ha1 hg1) hg1
    have hd2 := bx2 _ _ (wk_ne ha1 hd1) hd1
    have hl2 := bx2 _ _ (wk_ne ha1 hl1) hl1
    have hm2 := bx2 _ _ (wk_ne ha1 hm1) hm1
    have hp1_2 := bx2 p1 _ (wk_ne ha1 hp1_1) hp1_1
    generalize (upd (upd G1 p2 (.dK S'.deeds)) a (.ins (He.ga K "Work") dx (wFs g { D1 with d := p2 } S.next))) = G2 at bx2 ha2 hp2_2 bt2 hb2 hg2 hd2 hl2 hm2 hp1_2 tk2 fr2 ⊢
    generalize eD2 : ({ D1 with d := p2 } : WD) = D2 at ha2 ⊢
    walk_at "rd"
    refine r_dictC hl2 (fun p3 np3 => ?_)
    walk_at "rd"
    refine r_ifs (K := K) (fs := wFs g D2 S.next) (by walk_at "hp") cG n3 (show 6 < 1000 by decide) ?_
    rw [show putF "kept_left" (.ref p3) (wFs g D2 S.next) = wFs g { D2 with l := p3 } S.next from rfl]
    have bx3 : But a G2 (upd (upd G2 p3 (.dK S'.left)) a (.ins (He.ga K "Work") dx (wFs g { D2 with l := p3 } S.next))) := (But.of (same_new np3)).trans but_upd
    have ha3 : (upd (upd G2 p3 (.dK S'.left)) a (.ins (He.ga K "Work") dx (wFs g { D2 with l := p3 } S.next))) a = some (.ins (He.ga K "Work") dx (wFs g { D2 with l := p3 } S.next)) := upd_same
    have hp3_3 : (upd (upd G2 p3 (.dK S'.left)) a (.ins (He.ga K "Work") dx (wFs g { D2 with l := p3 } S.next))) p3 = some (.dK S'.left) := by
      rw [upd_ne (fun z => by rw [z, ha2] at np3; cases np3), upd_same]
    have tk3 : ∀ c, G2 c = none → c ≠ p3 → (upd (upd G2 p3 (.dK S'.left)) a (.ins (He.ga K "Work") dx (wFs g { D2 with l := p3 } S.next))) c = none := fun c h1 h2 => by
      rw [upd_ne (fun z => by rw [z, ha2] at h1; cases h1), upd_ne h2]
      exact h1
    have fr3 : ∀ c o, G2 c = some o → c ≠ p3 := fun c o h => ne_of_none h np3
    have bt3 := bt2.trans bx3
    have hb3 := bx3 _ _ hab.symm hb2
    have hg3 := bx3 _ _ (wk_ne ha2 hg2) hg2
    have hd3 := bx3 _ _ (wk_ne ha2 hd2) hd2
    have hl3 := bx3 _ _ (wk_ne ha2 hl2) hl2
    have hm3 := bx3 _ _ (wk_ne ha2 hm2) hm2
    have hp1_3 := bx3 p1 _ (wk_ne ha2 hp1_2) hp1_2
    have hp2_3 := bx3 p2 _ (wk_ne ha2 hp2_2) hp2_2
    generalize (upd (upd G2 p3 (.dK S'.left)) a (.ins (He.ga K "Work") dx (wFs g { D2 with l := p3 } S.next))) = G3 at bx3 ha3 hp3_3 bt3 hb3 hg3 hd3 hl3 hm3 hp1_3 hp2_3 tk3 fr3 ⊢
    generalize eD3 : ({ D2 with l := p3 } : WD) = D3 at ha3 ⊢
    walk_at "rd"
    refine r_dictC hm3 (fun p4 np4 => ?_)
    walk_at "rd"
    refine r_ifs (K := K) (fs := wFs g D3 S.next) (by walk_at "hp") cG n4 (show 6 < 1000 by decide) ?_
    rw [show putF "kept_makes" (.ref p4) (wFs g D3 S.next) = wFs g { D3 with m := p4 } S.next from rfl]
    have bx4 : But a G3 (upd (upd G3 p4 (.dK S'.makes)) a (.ins (He.ga K "Work") dx (wFs g { D3 with m := p4 } S.next))) := (But.of (same_new np4)).trans but_upd
    have ha4 : (upd (upd G3 p4 (.dK S'.makes)) a (.ins (He.ga K "Work") dx (wFs g { D3 with m := p4 } S.next))) a = some (.ins (He.ga K "Work") dx (wFs g { D3 with m := p4 } S.next)) := upd_same
    have hp4_4 : (upd (upd G3 p4 (.dK S'.makes)) a (.ins (He.ga K "Work") dx (wFs g { D3 with m := p4 } S.next))) p4 = some (.dK S'.makes) := by
      rw [upd_ne (fun z => by rw [z, ha3] at np4; cases np4), upd_same]
    have tk4 : ∀ c, G3 c = none → c ≠ p4 → (upd (upd G3 p4 (.dK S'.makes)) a (.ins (He.ga K "Work") dx (wFs g { D3 with m := p4 } S.next))) c = none := fun c h1 h2 => by
      rw [upd_ne (fun z => by rw [z, ha3] at h1; cases h1), upd_ne h2]
      exact h1
    have fr4 : ∀ c o, G3 c = some o → c ≠ p4 := fun c o h => ne_of_none h np4
    have bt4 := bt3.trans bx4
    have hb4 := bx4 _ _ hab.symm hb3
    have hg4 := bx4 _ _ (wk_ne ha3 hg3) hg3
    have hd4 := bx4 _ _ (wk_ne ha3 hd3) hd3
    have hl4 := bx4 _ _ (wk_ne ha3 hl3) hl3
    have hm4 := bx4 _ _ (wk_ne ha3 hm3) hm3
    have hp1_4 := bx4 p1 _ (wk_ne ha3 hp1_3) hp1_3
    have hp2_4 := bx4 p2 _ (wk_ne ha3 hp2_3) hp2_3
    have hp3_4 := bx4 p3 _ (wk_ne ha3 hp3_3) hp3_3
    generalize (upd (upd G3 p4 (.dK S'.makes)) a (.ins (He.ga K "Work") dx (wFs g { D3 with m := p4 } S.next))) = G4 at bx4 ha4 hp4_4 bt4 hb4 hg4 hd4 hl4 hm4 hp1_4 hp2_4 hp3_4 tk4 fr4 ⊢
    generalize eD4 : ({ D3 with m := p4 } : WD) = D4 at ha4 ⊢
    walk_at "rd"
    refine r_ifs (K := K) (fs := wFs g D4 S.next) ha4 cG n5 (show 6 < 1000 by decide) ?_
    rw [show putF "kept_next" (.int S'.next) (wFs g D4 S.next) = wFs g D4 S'.next from rfl]
    have bx5 : But a G4 (upd G4 a (.ins (He.ga K "Work") dx (wFs g D4 S'.next))) := but_upd
    have ha5 : (upd G4 a (.ins (He.ga K "Work") dx (wFs g D4 S'.next))) a = some (.ins (He.ga K "Work") dx (wFs g D4 S'.next)) := upd_same
    have bt5 := bt4.trans bx5
    have hp1_5 := bx5 _ _ (wk_ne ha4 hp1_4) hp1_4
    have hp2_5 := bx5 _ _ (wk_ne ha4 hp2_4) hp2_4
    have hp3_5 := bx5 _ _ (wk_ne ha4 hp3_4) hp3_4
    have hp4_5 := bx5 _ _ (wk_ne ha4 hp4_4) hp4_4
    generalize (upd G4 a (.ins (He.ga K "Work") dx (wFs g D4 S'.next))) = G5 at bx5 ha5 bt5 hp1_5 hp2_5 hp3_5 hp4_5 ⊢
    have eD : D4 = ⟨p1, p2, p3, p4⟩ := by rw [← eD4, ← eD3, ← eD2, ← eD1]
    have bn : ∀ {G : Hp} {c : Addr} {o : HO}, But a H G → G a = some o → G c = none → H c = none := fun {G c o} b e n => by
      cases q : H c with
      | none => rfl
      | some u =>
        have z := b c u (fun z => by rw [z, e] at n; cases n) q
        rw [n] at z
        cases z
    have m2 := bn bt1 ha1 np2
    have m3 := bn bt2 ha2 np3
    have m4 := bn bt3 ha3 np4
    have d12 := ne_of_none hp1_1 np2
    have d13 := ne_of_none hp1_2 np3
    have d14 := ne_of_none hp1_3 np4
    have d23 := ne_of_none hp2_2 np3
    have d24 := ne_of_none hp2_3 np4
    have d34 := ne_of_none hp3_3 np4
    have hW5 : Wk K G5 a g D4 S' := by
      subst eD
      refine ⟨⟨dx, ha5⟩, hp1_5, hp2_5, hp3_5, hp4_5, ?_⟩
      unfold WD.all
      simp [d12, d13, d14, d23, d24, d34]
    have hn : ∀ c ∈ D4.all, H c = none := by
      subst eD
      unfold WD.all
      intro c hc
      simp only [List.mem_cons, List.not_mem_nil, or_false] at hc
      rcases hc with rfl | rfl | rfl | rfl
      · exact np1
      · exact m2
      · exact m3
      · exact m4
    walk_at "rd"
    refine q_holes (K := K) hW5 h0 hlen (fun i x e => (hben i x e).imp id fun ⟨L, e1, e2⟩ => ⟨L, e1, but_lst bt5 ha0 _ _ e2⟩) (fun L H' s' hL => ?_)
    walk_at "rd"
    exact kq D4 L H' (bt5.trans (But.of s')) (hW5.same s') hn hL
end
section
variable {P : Program} {w : World} {K : PySem.W.Frag} {mg : Str → Option Value} {base : Heap}
theorem r_disp1 {tk tv : TE} {σ : L2.St} {H : Hp} {Q : VK} (h : ∀ p, H p = none → tk σ (upd H p (.dK [])) fun x H1 => tv σ H1 fun y H2 => H2 p = some (.dK []) ∧ ∃ kvs : List (Key × V), [(x, y)] = kvs.map (fun kv => (kV kv.1, kv.2)) ∧ kvs.length ≤ 15 ∧ Q (.ref p) (upd H2 p (.dK (mergeK [] kvs)))) : tDisp [(tk, tv)] σ H Q := h
theorem r_disp1c {H2 : Hp} {Q : VK} {p : Addr} {i : Int} {y : V} (h : H2 p = some (.dK [])) (k : Q (.ref p) (upd H2 p (.dK [(.inl i, y)]))) : H2 p = some (.dK []) ∧ ∃ kvs : List (Key × V), [(V.int i, y)] = kvs.map (fun kv => (kV kv.1, kv.2)) ∧ kvs.length ≤ 15 ∧ Q (.ref p) (upd H2 p (.dK (mergeK [] kvs))) := ⟨h, [(.inl i, y)], rfl, (show 1 ≤ 15 by decide), k⟩
theorem sc_Work_init : FnScope ["self", "ground", "saying", "room", "around"] ["self", "ground", "saying", "room"] (defScope s_Work_init) := ⟨rfl, rfl, rfl, by decide +kernel, rfl, by decide +kernel, by decide +kernel⟩
def sp_Work_init (K : PySem.W.Frag) : Sp := fun vs H Q _ => ∃ (x dx : Addr) (g sv rv r : V) (n : Str) (ts : List T) (t : T) (h : Nat), vs = [.ref x, g, sv, rv] ∧ H x = some (.ins (He.ga K "Work") dx []) ∧ Gr K H (some (n, r)) g ∧ Tm H t sv ∧ t.ok ∧ t.depth < 2 ∧ Says (some (n, r)) ts t (.kind h) ∧
  ((rv = .non ∧ ts = []) ∨ RmK false H ts rv ∨ RmK true H ts rv) ∧
  ∀ D p q zs H', But x H H' → Wk K H' x g D ⟨[(.inl 0, .ref p)], [], [], [], 1⟩ → H' p = some (.tup [.ref q, sv]) → H' q = some (.tup zs) → TsAll H' ts zs → (∀ c ∈ D.all, H c = none) → Q .non H'
theorem fn_Work_init (B : Bk w K mg) {fd : FuncData} (F : FunD K "__init__" "Work.__init__" (defArgs s_Work_init) (defBody s_Work_init) (defScope s_Work_init) [V.non] [] (He.ma K (He.ga K "Work") "__init__") fd) : FnOk P w K mg base C8.CX0 20 (He.ma K (He.ga K "Work") "__init__") fd ["self", "ground", "saying", "room"] (sp_Work_init K) := by
  refine fokD F sc_Work_init (fun vs H Q E h => ?_) (fun cdv A outer s H vs Q E hr h => ?_)
  · obtain ⟨x, dx, g, sv, rv, r, n, ts, t, h, rfl, _⟩ := h
    rfl
  · obtain ⟨x, dx, g, sv, rv, r, n, ts, t, h, rfl, hx0, hg, ht, hto, htd, hsay, hrv, kq⟩ := h
    have cG := c_Work B
    have n1 := n_Work_kept_ground B
    have n2 := n_Work_kept_goals B
    have n3 := n_Work_kept_deeds B
    have n4 := n_Work_kept_left B
    have n5 := n_Work_kept_makes B
    have n6 := n_Work_kept_next B
    have tail : ∃ tt, PSs (cxOf C8.CX0 P w K mg base ["self", "ground", "saying", "room", "around"] "Work.__init__" (defScope s_Work_init) (He.ma K (He.ga K "Work") "__init__") cdv A outer s H E).nox ((defBody s_Work_init).drop 5) tt ∧
        ∀ (l : Addr) (zs : List V) (H1 : Hp), Same H H1 → (H1 l = some (.lst zs) ∨ H1 l = some (.tup zs)) → TsAll H1 ts zs → tt { nx := fun _ H' => Q .non H', rt := Q } [some (.ref x), some g, some sv, some rv, some (.ref l)] H1 := by
      refine ⟨_, (pss_cons (ps_fld (pv 0) (pv 1) rfl)
        (pss_cons (ps_fld (pv 0) (pe_disp (pps_cons pe_int (pe_tup (pa_cons (pe_callTy call_tupOf (by rfl) (b_tuple B) (by decide +kernel) (pa_cons (pv 4) pa_nil)) (pa_cons (pv 2) pa_nil))) pps_nil) rfl rfl (List.cons_ne_nil _ _) (show 1 ≤ 15 by decide)) rfl)
        (pss_cons (ps_fld (pv 0) pe_dnewK rfl)
        (pss_cons (ps_fld (pv 0) pe_dnewK rfl)
        (pss_cons (ps_fld (pv 0) pe_dnewK rfl)
        (pss_one (ps_fld (pv 0) pe_int rfl))))))), fun l zs H1 s1 hl hts => ?_⟩
      have hlo : ∀ (G : Hp) (R : VK), (G l = some (.lst zs) ∨ G l = some (.tup zs)) → (∀ q H2, Same G H2 → H2 q = some (.tup zs) → R (.ref q) H2) → rTupOf K [.ref l] G R := fun G R hl k => by
        rcases hl with hl | hl
        · exact r_tupL (SqL.of hl) fun q nq => k q _ (same_new nq) upd_same
        · exact r_tupT (SqT.of hl) (k l _ (Same.refl _) hl)
      have hx1 := s1 _ _ hx0
      walk_at "rd"
      rw [show putF "kept_ground" g [] = ([("kept_ground", g)] : List (Str × V)) from rfl]
      have b1 : But x H1 (upd H1 x (.ins (He.ga K "Work") dx [("kept_ground", g)])) := but_upd
      have x1 : (upd H1 x (.ins (He.ga K "Work") dx [("kept_ground", g)])) x = some (.ins (He.ga K "Work") dx [("kept_ground", g)]) := upd_same
      generalize (upd H1 x (.ins (He.ga K "Work") dx [("kept_ground", g)])) = G1 at b1 x1 ⊢
      refine r_disp1 (fun p1 np1 => ?_)
      walk_at "rd"
      refine hlo _ _ (hl.imp (fun e => same_new np1 _ _ (but_lst b1 hx1 _ _ e)) (fun e => same_new np1 _ _ (but_tup b1 hx1 _ _ e))) (fun q A2 s2 hq => ?_)
      walk_at "rd"
      rename_i p np
      have a1 : A2 p1 = some (.dK []) := s2 _ _ upd_same
      have a2 : A2 x = some (.ins (He.ga K "Work") dx [("kept_ground", g)]) := s2 _ _ (same_new np1 _ _ x1)
      have a3 : ∀ c o, c ≠ x → H1 c = some o → A2 c = some o := fun c o n e => s2 _ _ (same_new np1 _ _ (b1 _ _ n e))
      refine ⟨same_new np _ _ a1, [(.inl 0, .ref p)], rfl, (show 1 ≤ 15 by decide), ?_⟩
      have em : mergeK ([] : List (Key × V)) [(.inl 0, .ref p)] = [(.inl 0, .ref p)] := rfl
      rw [em]
      have e2 : Same A2 (upd A2 p (.tup [.ref q, sv])) := same_new np
      have p1x : p1 ≠ x := fun z => by rw [z, a2] at a1; cases a1
      have pp1 : p ≠ p1 := fun z => by rw [z, a1] at np; cases np
      have px : p ≠ x := fun z => by rw [z, a2] at np; cases np
      have qp1 : q ≠ p1 := fun z => by rw [z, a1] at hq; cases hq
      have h2x : (upd (upd A2 p (.tup [.ref q, sv])) p1 (.dK [(.inl 0, .ref p)])) x = some (.ins (He.ga K "Work") dx [("kept_ground", g)]) := by rw [upd_ne p1x.symm]; exact e2 _ _ a2
      walk_at "rd"
      rename_i p2 np2 p3 np3 p4 np4
      have f2 : putF "kept_goals" (.ref p1) [("kept_ground", g)] = ([("kept_ground", g), ("kept_goals", .ref p1)] : List (Str × V)) := rfl
      have f3 : ∀ p2 : Addr, putF "kept_deeds" (.ref p2) [("kept_ground", g), ("kept_goals", .ref p1)] = ([("kept_ground", g), ("kept_goals", .ref p1), ("kept_deeds", .ref p2)] : List (Str × V)) := fun _ => rfl
      have f4 : ∀ p2 p3 : Addr, putF "kept_left" (.ref p3) [("kept_ground", g), ("kept_goals", .ref p1), ("kept_deeds", .ref p2)] = ([("kept_ground", g), ("kept_goals", .ref p1), ("kept_deeds", .ref p2), ("kept_left", .ref p3)] : List (Str × V)) := fun _ _ => rfl
      have f5 : ∀ p2 p3 p4 : Addr, putF "kept_makes" (.ref p4) [("kept_ground", g), ("kept_goals", .ref p1), ("kept_deeds", .ref p2), ("kept_left", .ref p3)] = ([("kept_ground", g), ("kept_goals", .ref p1), ("kept_deeds", .ref p2), ("kept_left", .ref p3), ("kept_makes", .ref p4)] : List (Str × V)) := fun _ _ _ => rfl
      have f6 : ∀ p2 p3 p4 : Addr, putF "kept_next" (.int 1) [("kept_ground", g), ("kept_goals", .ref p1), ("kept_deeds", .ref p2), ("kept_left", .ref p3), ("kept_makes", .ref p4)] = wFs g ⟨p1, p2, p3, p4⟩ 1 := fun _ _ _ => rfl
      rw [f2] at np2 np3 np4 ⊢
      rw [f3] at np3 np4 ⊢
      rw [f4] at np4 ⊢
      rw [f5, f6]
      generalize hG2 : upd (upd (upd A2 p (.tup [.ref q, sv])) p1 (.dK [(.inl 0, .ref p)])) x (.ins (He.ga K "Work") dx [("kept_ground", g), ("kept_goals", .ref p1)]) = G2 at np2 np3 np4 ⊢
      have x2 : G2 x = some (.ins (He.ga K "Work") dx [("kept_ground", g), ("kept_goals", .ref p1)]) := by subst hG2; exact upd_same
      have b2 : But x H1 G2 := fun c o n e => by
        have a := a3 c o n e
        have cp1 : c ≠ p1 := fun z => by
          have y := b1 _ _ n e
          rw [z] at y
          rw [y] at np1
          cases np1
        subst hG2
        rw [upd_ne n, upd_ne cp1]
        exact e2 _ _ a
      have g2 : G2 p1 = some (.dK [(.inl 0, .ref p)]) := by subst hG2; rw [upd_ne p1x]; exact upd_same
      have t2 : G2 p = some (.tup [.ref q, sv]) := by subst hG2; rw [upd_ne px, upd_ne pp1]; exact upd_same
      have q2 : G2 q = some (.tup zs) := by
        subst hG2
        rw [upd_ne (fun z => by rw [z, a2] at hq; cases hq), upd_ne qp1]
        exact e2 _ _ hq
      clear hG2 h2x
      have free : ∀ {G : Hp} {c : Addr} {fs : List (Str × V)}, But x H1 G → G x = some (.ins (He.ga K "Work") dx fs) → G c = none → H c = none := fun {G c fs} b e n => by
        cases u : H c with
        | none => rfl
        | some o =>
          have z := b c o (fun z => by rw [z, e] at n; cases n) (s1 _ _ u)
          rw [n] at z
          cases z
      have np1' : H p1 = none := free b1 x1 np1
      have stp : ∀ {G : Hp} {c : Addr} {fs fs' : List (Str × V)} {o : HO}, G x = some (.ins (He.ga K "Work") dx fs) → G c = none → But x G (upd (upd G c o) x (.ins (He.ga K "Work") dx fs')) ∧ (upd (upd G c o) x (.ins (He.ga K "Work") dx fs')) x = some (.ins (He.ga K "Work") dx fs') ∧ (upd (upd G c o) x (.ins (He.ga K "Work") dx fs')) c = some o := fun {G c fs fs' o} hx nc => by
        have cx : c ≠ x := fun z => by rw [z, hx] at nc; cases nc
        exact ⟨(But.of (same_new nc)).trans but_upd, upd_same, by rw [upd_ne cx, upd_same]⟩
      have np2' : H p2 = none := free b2 x2 np2
      obtain ⟨b3, x3, d3⟩ := stp (fs' := [("kept_ground", g), ("kept_goals", .ref p1), ("kept_deeds", .ref p2)]) (o := .dK []) x2 np2
      generalize upd (upd G2 p2 (.dK [])) x (.ins (He.ga K "Work") dx [("kept_ground", g), ("kept_goals", .ref p1), ("kept_deeds", .ref p2)]) = G3 at np3 np4 b3 x3 d3 ⊢
      have np3' : H p3 = none := free (b2.trans b3) x3 np3
      obtain ⟨b4, x4, d4⟩ := stp (fs' := [("kept_ground", g), ("kept_goals", .ref p1), ("kept_deeds", .ref p2), ("kept_left", .ref p3)]) (o := .dK []) x3 np3
      generalize upd (upd G3 p3 (.dK [])) x (.ins (He.ga K "Work") dx [("kept_ground", g), ("kept_goals", .ref p1), ("kept_deeds", .ref p2), ("kept_left", .ref p3)]) = G4 at np4 b4 x4 d4 ⊢
      have np4' : H p4 = none := free ((b2.trans b3).trans b4) x4 np4
      obtain ⟨b5, x5, d5⟩ := stp (fs' := [("kept_ground", g), ("kept_goals", .ref p1), ("kept_deeds", .ref p2), ("kept_left", .ref p3), ("kept_makes", .ref p4)]) (o := .dK []) x4 np4
      generalize upd (upd G4 p4 (.dK [])) x (.ins (He.ga K "Work") dx [("kept_ground", g), ("kept_goals", .ref p1), ("kept_deeds", .ref p2), ("kept_left", .ref p3), ("kept_makes", .ref p4)]) = G5 at b5 x5 d5 ⊢
      have b6 : But x G5 (upd G5 x (.ins (He.ga K "Work") dx (wFs g ⟨p1, p2, p3, p4⟩ 1))) := but_upd
      have x6 : (upd G5 x (.ins (He.ga K "Work") dx (wFs g ⟨p1, p2, p3, p4⟩ 1))) x = some (.ins (He.ga K "Work") dx (wFs g ⟨p1, p2, p3, p4⟩ 1)) := upd_same
      generalize upd G5 x (.ins (He.ga K "Work") dx (wFs g ⟨p1, p2, p3, p4⟩ 1)) = G6 at b6 x6 ⊢
      have nx : ∀ {G : Hp} {c : Addr} {fs : List (Str × V)} {kvs : List (Key × V)}, G x = some (.ins (He.ga K "Work") dx fs) → G c = some (.dK kvs) → c ≠ x := fun hx hc z => by rw [z, hx] at hc; cases hc
      have g3 := b3 _ _ p1x g2
      have g4 := b4 _ _ p1x g3
      have g5 := b5 _ _ p1x g4
      have g6 := b6 _ _ p1x g5
      have d3x := nx x3 d3
      have d4x := nx x4 d4
      have d5x := nx x5 d5
      have e4 := b4 _ _ d3x d3
      have e5 := b5 _ _ d3x e4
      have e6 := b6 _ _ d3x e5
      have k5 := b5 _ _ d4x d4
      have k6 := b6 _ _ d4x k5
      have m6 := b6 _ _ d5x d5
      have b26 : But x G2 G6 := ((b3.trans b4).trans b5).trans b6
      have n12 : p1 ≠ p2 := ne_of_none g2 np2
      have n13 : p1 ≠ p3 := ne_of_none g3 np3
      have n14 : p1 ≠ p4 := ne_of_none g4 np4
      have n23 : p2 ≠ p3 := ne_of_none d3 np3
      have n24 : p2 ≠ p4 := ne_of_none e4 np4
      have n34 : p3 ≠ p4 := ne_of_none d4 np4
      refine kq ⟨p1, p2, p3, p4⟩ p q zs G6 ((But.of s1).trans (b2.trans b26)) ⟨⟨dx, x6⟩, g6, e6, k6, m6, ?_⟩ (b26 _ _ px t2) (b26 _ _ (fun z => by rw [z, x2] at q2; cases q2) q2) (hts.mono fun c xs e => (b2.trans b26) _ _ (fun z => by rw [z, hx1] at e; cases e) e) ?_
      · unfold WD.all
        simp [n12, n13, n14, n23, n24, n34]
      · unfold WD.all
        intro c hc
        simp only [List.mem_cons, List.not_mem_nil, or_false] at hc
        rcases hc with rfl | rfl | rfl | rfl
        · exact np1'
        · exact np2'
        · exact np3'
        · exact np4'
    have case : ∀ (l : Addr) (zs : List V), True := fun _ _ => trivial
    obtain ⟨tt, htt, hq⟩ := tail
    rcases hrv with ⟨rfl, rfl⟩ | hrm | hrm
    · refine ⟨_, (pss_cons (ps_expr (C8.pe_c (ok_need_ground B) hr (by decide) (by rfl) (pa_cons (pv 1) pa_nil)))
        (pss_cons (ps_expr (C8.pe_c (ok_need_term B) hr (by decide) (by rfl) (pa_cons (pv 2) pa_nil)))
        (pss_cons (ps_set (i := 4) sc_Work_init.nd rfl (Or.inl rfl) (pe_ifExp (pt_cmpR op_isNo (pv 3) pe_non (nomark _)) (pe_tup pa_nil) (pv 3)))
        (pss_cons (ps_expr (C8.pe_c (ok_need_roomT B) hr (by decide) (by rfl) (pa_cons (pv 4) pa_nil)))
        (pss_cons (ps_expr (C8.pe_c (ok_need_goalT B) hr (by decide) (by rfl) (pa_cons (pv 1) (pa_cons (pv 4) (pa_cons (pv 2) pa_nil))))) htt))))), ?_⟩
      walk_at "rd"
      refine ⟨g, _, rfl, hg, ?_⟩
      walk_at "rd"
      rename_i H2 s2 l nl
      have hrm : RmK true (upd H2 l (.tup [])) [] (.ref l) := ⟨l, [], rfl, upd_same, trivial, fun _ h => (nomatch h), Nat.zero_le _⟩
      have hl2 : (upd H2 l (.tup [])) l = some (.tup []) := upd_same
      refine q_need_room hrm ?_
      walk_at "rd"
      refine q_need_goal (K := K) (by walk_at "tm") (hrm.same (by walk_at "sm")) (by walk_at "tm") hsay ?_
      walk_at "rd"
      exact hq l [] _ (by walk_at "sm") (.inr (by walk_at "hp")) trivial
    · refine ⟨_, (pss_cons (ps_expr (C8.pe_c (ok_need_ground B) hr (by decide) (by rfl) (pa_cons (pv 1) pa_nil)))
        (pss_cons (ps_expr (C8.pe_c (ok_need_term B) hr (by decide) (by rfl) (pa_cons (pv 2) pa_nil)))
        (pss_cons (ps_set (i := 4) sc_Work_init.nd rfl (Or.inl rfl) (pe_ifExp (pt_cmpR op_isNo (pv 3) pe_non (nomark _)) (pe_tup pa_nil) (pv 3)))
        (pss_cons (ps_expr (C8.pe_c (ok_need_roomL B) hr (by decide) (by rfl) (pa_cons (pv 4) pa_nil)))
        (pss_cons (ps_expr (C8.pe_c (ok_need_goalL B) hr (by decide) (by rfl) (pa_cons (pv 1) (pa_cons (pv 4) (pa_cons (pv 2) pa_nil))))) htt))))), ?_⟩
      have hrm' := hrm
      obtain ⟨l, zs, rfl, hl, hts, _⟩ := hrm'
      have hl : H l = some (HO.lst zs) := hl
      walk_at "rd"
      refine ⟨g, _, rfl, hg, ?_⟩
      walk_at "rd"
      refine q_need_room (hrm.same (by walk_at "sm")) ?_
      walk_at "rd"
      refine q_need_goal (K := K) (by walk_at "tm") (hrm.same (by walk_at "sm")) (by walk_at "tm") hsay ?_
      walk_at "rd"
      exact hq l zs _ (by walk_at "sm") (.inl (by walk_at "hp")) (hts.same (by walk_at "sm"))
    · refine ⟨_, (pss_cons (ps_expr (C8.pe_c (ok_need_ground B) hr (by decide) (by rfl) (pa_cons (pv 1) pa_nil)))
        (pss_cons (ps_expr (C8.pe_c (ok_need_term B) hr (by decide) (by rfl) (pa_cons (pv 2) pa_nil)))
        (pss_cons (ps_set (i := 4) sc_Work_init.nd rfl (Or.inl rfl) (pe_ifExp (pt_cmpR op_isNo (pv 3) pe_non (nomark _)) (pe_tup pa_nil) (pv 3)))
        (pss_cons (ps_expr (C8.pe_c (ok_need_roomT B) hr (by decide) (by rfl) (pa_cons (pv 4) pa_nil)))
        (pss_cons (ps_expr (C8.pe_c (ok_need_goalT B) hr (by decide) (by rfl) (pa_cons (pv 1) (pa_cons (pv 4) (pa_cons (pv 2) pa_nil))))) htt))))), ?_⟩
      have hrm' := hrm
      obtain ⟨l, zs, rfl, hl, hts, _⟩ := hrm'
      have hl : H l = some (HO.tup zs) := hl
      walk_at "rd"
      refine ⟨g, _, rfl, hg, ?_⟩
      walk_at "rd"
      refine q_need_room (hrm.same (by walk_at "sm")) ?_
      walk_at "rd"
      refine q_need_goal (K := K) (by walk_at "tm") (hrm.same (by walk_at "sm")) (by walk_at "tm") hsay ?_
      walk_at "rd"
      exact hq l zs _ (by walk_at "sm") (.inr (by walk_at "hp")) (hts.same (by walk_at "sm"))
end
section
variable {P : Program} {w : World} {K : PySem.W.Frag} {mg : Str → Option Value} {base : Heap}
/-! ### heaps in which works change -/
def IsId : HO → Prop
  | .ins .. => True | .dK _ => True | _ => False
def Ids (H : Hp) (xs : List Addr) : Prop := ∀ c ∈ xs, ∃ o, H c = some o ∧ IsId o
/-- all but those at xs (and the tables) stays -/
structure Pv (K : PySem.W.Frag) (xs : List Addr) (H H' : Hp) : Prop where
  e : ∀ b o, b ∉ xs → H b = some o → (∀ ps, o ≠ .tbl ps) → H' b = some o
  n : ∀ b, H' b = none → H b = none
  t : Tbs K H'
theorem Pv.trans {xs : List Addr} {H H1 H2 : Hp} (a : Pv K xs H H1) (b : Pv K xs H1 H2) : Pv K xs H H2 := ⟨fun c o m h n => b.e c o m (a.e c o m h n) n, fun c h => a.n c (b.n c h), b.t⟩
theorem Pv.mono {xs ys : List Addr} {H H1 : Hp} (a : Pv K xs H H1) (h : ∀ c ∈ xs, c ∈ ys) : Pv K ys H H1 := ⟨fun c o m => a.e c o (fun z => m (h c z)), a.n, a.t⟩
theorem Pv.kp {xs : List Addr} {H H1 : Hp} (k : Kp K H H1) : Pv K xs H H1 := ⟨fun c o _ e n => k.e c o e n, k.n, k.t⟩
theorem Pv.of {xs : List Addr} {H H1 : Hp} (s : Same H H1) (t : Tbs K H) : Pv K xs H H1 := Pv.kp (Kp.of s t)
theorem tbs_upd {H : Hp} {c : Addr} {o u : HO} (t : Tbs K H) (hc : H c = some o) (i : IsId o) : Tbs K (upd H c u) := fun p hp => by
  obtain ⟨ps, h1, h2, h3⟩ := t p hp
  refine ⟨ps, ?_, h2, fun pos cv hcv => ?_⟩
  · rw [upd_ne (fun z => by rw [z, hc] at h1; cases h1; exact False.elim i)]
    exact h1
  · obtain ⟨c1, e1, e2⟩ := h3 pos cv hcv
    refine ⟨c1, e1, ?_⟩
    rw [upd_ne (fun z => by rw [z, hc] at e2; cases e2; exact False.elim i)]
    exact e2
theorem Pv.upd {xs : List Addr} {H H1 : Hp} {c : Addr} {o u : HO} (a : Pv K xs H H1) (m : c ∈ xs) (hc : H1 c = some o) (i : IsId o) : Pv K xs H (upd H1 c u) := by
  refine ⟨fun b w hb e n => ?_, fun b h => ?_, tbs_upd a.t hc i⟩
  · rw [upd_ne (fun z : b = c => hb (by rw [z]; exact m))]
    exact a.e b w hb e n
  · by_cases z : b = c
    · rw [z, upd_same] at h
      cases h
    · rw [upd_ne z] at h
      exact a.n b h
theorem Pv.same {xs : List Addr} {H H1 H2 : Hp} (a : Pv K xs H H1) (s : Same H1 H2) : Pv K xs H H2 := a.trans (Pv.of s a.t)
section
variable {xs : List Addr} {H H1 : Hp} (a : Pv K xs H H1) (i : Ids H xs)
include a i
theorem Pv.obj {b : Addr} {o : HO} (h : H b = some o) (no : ¬ IsId o) (nt : ∀ ps, o ≠ .tbl ps) : H1 b = some o := a.e b o (fun m => by
  obtain ⟨o', e, q⟩ := i b m
  rw [h] at e
  cases e
  exact no q) h nt
theorem Pv.tup : ∀ b ys, H b = some (.tup ys) → H1 b = some (.tup ys) := fun b ys h => a.obj i h (fun z => z) (fun _ => nofun)
theorem Pv.lst : ∀ b ys, H b = some (.lst ys) → H1 b = some (.lst ys) := fun b ys h => a.obj i h (fun z => z) (fun _ => nofun)
theorem Pv.ext {b : Addr} {φ : Heap → Prop} (h : H b = some (.ext φ)) : H1 b = some (.ext φ) := a.obj i h (fun z => z) (fun _ => nofun)
theorem Pv.tm {t : T} {v : V} (h : Tm H t v) : Tm H1 t v := h.mono (a.tup i)
theorem Pv.ts {ts : List T} {vs : List V} (h : TsAll H ts vs) : TsAll H1 ts vs := h.mono (a.tup i)
theorem Pv.lam {f : Addr} {M : Kl.LM} {x : Str} {v : V} (h : Kl.LamAt H f M x v) : Kl.LamAt H1 f M x v := by
  obtain ⟨h1, h2, c, h3, h4⟩ := h
  exact ⟨a.ext i h1, a.ext i h2, c, h3, a.ext i h4⟩
theorem Pv.mkB {f : Addr} {v : V} (h : MkB H f v) : MkB H1 f v := by
  obtain ⟨c, cc, q⟩ := h
  exact ⟨c, cc, a.lam i q⟩
theorem Pv.mkG {f : Addr} {v : V} (h : MkG H f v) : MkG H1 f v := by
  obtain ⟨c, cc, q⟩ := h
  exact ⟨c, cc, a.lam i q⟩
theorem Pv.dd {d : Option T} {v : V} (h : Dd H d v) : Dd H1 d v := h.mono (a.tup i)
end
/-! ### the works' tables written -/
theorem Wk.ids {H : Hp} {a : Addr} {g : V} {D : WD} {S : WS} (h : Wk K H a g D S) : Ids H (a :: D.all) := by
  obtain ⟨⟨dx, e⟩, h1, h2, h3, h4, _⟩ := h
  unfold WD.all
  intro c hc
  simp only [List.mem_cons, List.not_mem_nil, or_false] at hc
  rcases hc with rfl | rfl | rfl | rfl | rfl
  · exact ⟨_, e, trivial⟩
  · exact ⟨_, h1, trivial⟩
  · exact ⟨_, h2, trivial⟩
  · exact ⟨_, h3, trivial⟩
  · exact ⟨_, h4, trivial⟩
theorem Wk.pv {xs : List Addr} {H H' : Hp} (p : Pv K xs H H') {a : Addr} {g : V} {D : WD} {S : WS} (h : Wk K H a g D S) (n : ∀ c ∈ a :: D.all, c ∉ xs) : Wk K H' a g D S := by
  obtain ⟨⟨dx, e⟩, h1, h2, h3, h4, h5⟩ := h
  unfold WD.all at n
  exact ⟨⟨dx, p.e _ _ (n _ (by simp)) e (fun _ => nofun)⟩, p.e _ _ (n _ (by simp)) h1 (fun _ => nofun), p.e _ _ (n _ (by simp)) h2 (fun _ => nofun), p.e _ _ (n _ (by simp)) h3 (fun _ => nofun), p.e _ _ (n _ (by simp)) h4 (fun _ => nofun), h5⟩
theorem Wk.kp {H H' : Hp} (p : Kp K H H') {a : Addr} {g : V} {D : WD} {S : WS} (h : Wk K H a g D S) : Wk K H' a g D S := h.pv (Pv.kp (xs := []) p) (fun _ _ => nofun)
section
variable {H : Hp} {a : Addr} {g : V} {D : WD} {S : WS} (h : Wk K H a g D S)
include h
theorem Wk.nd4 : (D.g ≠ D.d ∧ D.g ≠ D.l ∧ D.g ≠ D.m) ∧ (D.d ≠ D.l ∧ D.d ≠ D.m) ∧ D.l ≠ D.m := by
  have q := h.nd
  unfold WD.all at q
  simp at q
  exact ⟨⟨q.1.1, q.1.2.1, q.1.2.2⟩, ⟨q.2.1.1, q.2.1.2⟩, q.2.2⟩
theorem Wk.ane {c : Addr} (hc : c ∈ D.all) : a ≠ c := by
  obtain ⟨⟨dx, e⟩, h1, h2, h3, h4, _⟩ := h
  unfold WD.all at hc
  simp only [List.mem_cons, List.not_mem_nil, or_false] at hc
  rcases hc with rfl | rfl | rfl | rfl <;> (intro z; rw [z] at e)
  · rw [h1] at e; cases e
  · rw [h2] at e; cases e
  · rw [h3] at e; cases e
  · rw [h4] at e; cases e
theorem Wk.setg {kvs : List (Key × V)} : Wk K (upd H D.g (.dK kvs)) a g D { S with goals := kvs } := by
  obtain ⟨⟨n1, n2, n3⟩, ⟨n4, n5⟩, n6⟩ := h.nd4
  have na := h.ane (c := D.g) (by unfold WD.all; simp)
  obtain ⟨⟨dx, e⟩, h1, h2, h3, h4, h5⟩ := h
  exact ⟨⟨dx, by rw [upd_ne na]; exact e⟩, upd_same, by rw [upd_ne n1.symm]; exact h2, by rw [upd_ne n2.symm]; exact h3, by rw [upd_ne n3.symm]; exact h4, h5⟩
theorem Wk.setd {kvs : List (Key × V)} : Wk K (upd H D.d (.dK kvs)) a g D { S with deeds := kvs } := by
  obtain ⟨⟨n1, n2, n3⟩, ⟨n4, n5⟩, n6⟩ := h.nd4
  have na := h.ane (c := D.d) (by unfold WD.all; simp)
  obtain ⟨⟨dx, e⟩, h1, h2, h3, h4, h5⟩ := h
  exact ⟨⟨dx, by rw [upd_ne na]; exact e⟩, by rw [upd_ne n1]; exact h1, upd_same, by rw [upd_ne n4.symm]; exact h3, by rw [upd_ne n5.symm]; exact h4, h5⟩
theorem Wk.setl {kvs : List (Key × V)} : Wk K (upd H D.l (.dK kvs)) a g D { S with left := kvs } := by
  obtain ⟨⟨n1, n2, n3⟩, ⟨n4, n5⟩, n6⟩ := h.nd4
  have na := h.ane (c := D.l) (by unfold WD.all; simp)
  obtain ⟨⟨dx, e⟩, h1, h2, h3, h4, h5⟩ := h
  exact ⟨⟨dx, by rw [upd_ne na]; exact e⟩, by rw [upd_ne n2]; exact h1, by rw [upd_ne n4]; exact h2, upd_same, by rw [upd_ne n6.symm]; exact h4, h5⟩
theorem Wk.setm {kvs : List (Key × V)} : Wk K (upd H D.m (.dK kvs)) a g D { S with makes := kvs } := by
  obtain ⟨⟨n1, n2, n3⟩, ⟨n4, n5⟩, n6⟩ := h.nd4
  have na := h.ane (c := D.m) (by unfold WD.all; simp)
  obtain ⟨⟨dx, e⟩, h1, h2, h3, h4, h5⟩ := h
  exact ⟨⟨dx, by rw [upd_ne na]; exact e⟩, by rw [upd_ne n3]; exact h1, by rw [upd_ne n5]; exact h2, by rw [upd_ne n6]; exact h3, upd_same, h5⟩
theorem Wk.setn {n : Int} {dx : Addr} : Wk K (upd H a (.ins (He.ga K "Work") dx (wFs g D n))) a g D { S with next := n } := by
  have nn : ∀ c ∈ D.all, c ≠ a := fun c hc => (h.ane hc).symm
  obtain ⟨_, h1, h2, h3, h4, h5⟩ := h
  unfold WD.all at nn
  exact ⟨⟨dx, upd_same⟩, by rw [upd_ne (nn _ (by simp))]; exact h1, by rw [upd_ne (nn _ (by simp))]; exact h2, by rw [upd_ne (nn _ (by simp))]; exact h3, by rw [upd_ne (nn _ (by simp))]; exact h4, h5⟩
end
/-! ### what a work holds ahead, behind the first deed, behind both -/
def GoalAt (H : Hp) (p : Addr) (ts : List T) (t : T) : Prop := ∃ q sv zs, H p = some (.tup [.ref q, sv]) ∧ H q = some (.tup zs) ∧ TsAll H ts zs ∧ Tm H t sv
theorem GoalAt.pv {xs : List Addr} {H H' : Hp} (p : Pv K xs H H') (i : Ids H xs) {a : Addr} {ts : List T} {t : T} (h : GoalAt H a ts t) : GoalAt H' a ts t := by
  obtain ⟨q, sv, zs, h1, h2, h3, h4⟩ := h
  exact ⟨q, sv, zs, p.tup i _ _ h1, p.tup i _ _ h2, p.ts i h3, p.tm i h4⟩
def W0 (K : PySem.W.Frag) (H : Hp) (g : V) (ts : List T) (t : T) (a : Addr) (D : WD) : Prop := ∃ p, Wk K H a g D ⟨[(.inl 0, .ref p)], [], [], [], 1⟩ ∧ GoalAt H p ts t
def W1 (K : PySem.W.Frag) (H : Hp) (g : V) (ts : List T) (n : Str) (a : Addr) (D : WD) : Prop := ∃ p e dv L f sv, Wk K H a g D ⟨[(.inl 0, .ref p), (.inl 1, .ref e)], [(.inl 0, dv)], [(.inl 0, .ref L)], [(.inl 0, .ref f)], 2⟩ ∧
  GoalAt H p ts (.all (.name n) (.name n)) ∧ GoalAt H e (ts ++ [.name n]) (.name n) ∧ Dd H none dv ∧ H L = some (.lst [.int 1]) ∧ MkB H f sv ∧ Tm H (.all (.name n) (.name n)) sv
def W2 (K : PySem.W.Frag) (H : Hp) (g : V) (ts : List T) (n : Str) (a : Addr) (D : WD) : Prop := ∃ p e dv L f sv dv2 L2 f2 tv, Wk K H a g D ⟨[(.inl 0, .ref p), (.inl 1, .ref e)], [(.inl 0, dv), (.inl 1, dv2)], [(.inl 0, .ref L), (.inl 1, .ref L2)], [(.inl 0, .ref f), (.inl 1, .ref f2)], 2⟩ ∧
  GoalAt H p ts (.all (.name n) (.name n)) ∧ GoalAt H e (ts ++ [.name n]) (.name n) ∧ Dd H none dv ∧ H L = some (.lst [.int 1]) ∧ MkB H f sv ∧ Tm H (.all (.name n) (.name n)) sv ∧
  Dd H (some (.at_ 0)) dv2 ∧ H L2 = some (.lst []) ∧ MkG H f2 tv ∧ Tm H (.at_ 0) tv
section
variable {xs : List Addr} {H H' : Hp} (p : Pv K xs H H') (i : Ids H xs) {a : Addr} {D : WD} (m : ∀ c ∈ a :: D.all, c ∉ xs) {g : V} {ts : List T} {t : T} {n : Str}
include p i m
theorem W0.pv (h : W0 K H g ts t a D) : W0 K H' g ts t a D := by
  obtain ⟨q, h1, h2⟩ := h
  exact ⟨q, h1.pv p m, h2.pv p i⟩
theorem W1.pv (h : W1 K H g ts n a D) : W1 K H' g ts n a D := by
  obtain ⟨q, e, dv, L, f, sv, h1, h2, h3, h4, h5, h6, h7⟩ := h
  exact ⟨q, e, dv, L, f, sv, h1.pv p m, h2.pv p i, h3.pv p i, p.dd i h4, p.lst i _ _ h5, p.mkB i h6, p.tm i h7⟩
theorem W2.pv (h : W2 K H g ts n a D) : W2 K H' g ts n a D := by
  obtain ⟨q, e, dv, L, f, sv, dv2, L2, f2, tv, h1, h2, h3, h4, h5, h6, h7, h8, h9, h10, h11⟩ := h
  exact ⟨q, e, dv, L, f, sv, dv2, L2, f2, tv, h1.pv p m, h2.pv p i, h3.pv p i, p.dd i h4, p.lst i _ _ h5, p.mkB i h6, p.tm i h7, p.dd i h8, p.lst i _ _ h9, p.mkG i h10, p.tm i h11⟩
end
end
section
variable {P : Program} {w : World} {K : PySem.W.Frag} {mg : Str → Option Value} {base : Heap}
theorem r_lrg {ta tb : TE} {σ : L2.St} {H : Hp} {Q : VK} (h : ta σ H fun x H1 => tb σ H1 fun y H2 => ∃ i j, x = .int i ∧ y = .int j ∧ RgOk i j ∧ ∀ q, H2 q = none → Q (.ref q) (upd H2 q (.lst (rgV i j)))) : tLstRg (tRg2 ta tb) σ H Q := h
theorem r_dz {ta : TA} {σ : L2.St} {H : Hp} {Q : VK} (h : ta σ H fun vs H1 => ∃ a b, ∃ (ks : List Key) (ys : List V), vs = [.ref a, .ref b] ∧ SqL K H1 a (ks.map kV) ∧ SqL K H1 b ys ∧ ks.length = ys.length ∧
  ∀ p, H1 p = none → Q (.ref p) (upd H1 p (.dK (mergeK [] (ks.zip ys))))) : Kz.tDictZip K ta σ H Q := h
theorem r_fa {ta tv : TE} {rd : V → V → Hp → VK → Prop} {f : Str} {D : Ends} {σ : L2.St} {H : Hp} (h : ta σ H fun x H1 => ∃ a C dx fs v, x = .ref a ∧ H1 a = some (.ins C dx fs) ∧ Cls K C ∧ NoAttr K C f ∧ fs.lookup f = some v ∧
  tv σ H1 fun y H2 => rd v y H2 fun z H3 => ∃ dx' fs', H3 a = some (.ins C dx' fs') ∧ fs'.length < 1000 ∧ D.nx σ (upd H3 a (.ins C dx' (putF f z fs')))) : sFldAug K ta tv rd f D σ H := h
def sp_do_B (K : PySem.W.Frag) : Sp := fun vs H Q _ => ∃ (a : Addr) (g r dv : V) (n : Str) (D : WD) (ts : List T), vs = [.ref a, .int 0, dv] ∧ W0 K H g ts (.all (.name n) (.name n)) a D ∧ Gr K H (some (n, r)) g ∧ Dd H none dv ∧ ts.length ≤ 3 ∧ Tbs K H ∧
  ∀ l H', Pv K (a :: D.all) H H' → W1 K H' g ts n a D → H' l = some (.lst [.int 1]) → Q (.ref l) H'
def sp_do_G (K : PySem.W.Frag) : Sp := fun vs H Q _ => ∃ (a : Addr) (g r dv : V) (n : Str) (D : WD) (ts : List T), vs = [.ref a, .int 1, dv] ∧ W1 K H g ts n a D ∧ Gr K H (some (n, r)) g ∧ Dd H (some (.at_ 0)) dv ∧ ts.length ≤ 3 ∧ Tbs K H ∧
  ∀ l H', Pv K (a :: D.all) H H' → W2 K H' g ts n a D → H' l = some (.lst []) → Q (.ref l) H'
theorem sc_Work_do : FnScope ["self", "hole", "deed", "room", "saying", "goals", "makes", "left"] ["self", "hole", "deed"] (defScope s_Work_do) := ⟨rfl, rfl, rfl, by decide +kernel, rfl, by decide +kernel, by decide +kernel⟩
theorem fn_do_B (B : Bk w K mg) (TB : TBs K mg base) {fd : FuncData} (F : FunD K "do" "Work.do" (defArgs s_Work_do) (defBody s_Work_do) (defScope s_Work_do) [] [] (He.ma K (He.ga K "Work") "do") fd) : FnOk P w K mg base C8.CX0 19 (He.ma K (He.ga K "Work") "do") fd ["self", "hole", "deed"] (sp_do_B K) := by
  refine fokD F sc_Work_do (fun vs H Q E h => ?_) (fun cdv A outer s H vs Q E hr h => ?_)
  · obtain ⟨a, g, r, dv, n, D, ts, rfl, _⟩ := h
    rfl
  · obtain ⟨a, g, r, dv, n, D, ts, rfl, ⟨p, hW, hp0⟩, hg, hd, htl, hT, kq⟩ := h
    have hp0' := hp0
    obtain ⟨q, sv, zs, hp, hq, hts, hsv⟩ := hp0'
    have hW' := hW
    obtain ⟨⟨dx, ha⟩, hgg, hdd, hll, hmm, _⟩ := hW'
    have cG := c_Work B
    have n1 := n_Work_kept_goals B
    have n2 := n_Work_kept_ground B
    have n3 := n_Work_kept_next B
    have n4 := n_Work_kept_deeds B
    have n5 := n_Work_kept_left B
    have n6 := n_Work_kept_makes B
    have hu := hu_of hr
    refine ⟨_, (pss_cons (ps_expr (C8.pe_mt (ok_need_hole B) hr (by decide) (pv 0) (pa_cons (pv 1) (pa_cons pe_bl pa_nil))))
      (pss_cons (ps_asg (pe_dget hu (pe_fld (pv 0) rfl) (pv 1) (fun _ _ => rfl)) (pg_tup2 (K0 := K) rfl (i := 3) (j := 4) rfl sc_Work_do.nd rfl rfl (Or.inl rfl) (Or.inl rfl) (Or.inl rfl) (Or.inl rfl)))
      (pss_cons (ps_asg (C8.pe_c (ok_done_inB B TB) hr (by decide) (by rfl) (pa_cons (pe_fld (pv 0) rfl) (pa_cons (pv 3) (pa_cons (pv 4) (pa_cons (pv 2) pa_nil))))) (pg_tup2 (K0 := K) rfl (i := 5) (j := 6) rfl sc_Work_do.nd rfl rfl (Or.inl rfl) (Or.inl rfl) (Or.inl rfl) (Or.inl rfl)))
      (pss_cons (ps_set (i := 7) sc_Work_do.nd rfl (Or.inl rfl) (pe_listRg rfl (by rfl) (b_list B) (prg_2 (by rfl) (b_range B) (pe_fld (pv 0) rfl) (pe_op op_add (pe_fld (pv 0) rfl) (pe_callB call_lenQ (by rfl) (b_len B) (by decide +kernel) (pa_cons (pv 5) pa_nil))))))
      (pss_cons (ps_expr (pe_bm PySem.F.plainAttrs_dict PySem.F.slot_dict_update PySem.F.type_dict_update Kz.mtd_update (pe_fld (pv 0) rfl) (pa_cons (Kz.pe_dictZip rfl (by rfl) (b_dict B) (by rfl) (b_zip B) (pa_cons (pv 7) (pa_cons (pv 5) pa_nil))) pa_nil)))
      (pss_cons (ps_fldaug (pv 0) (pe_callB call_lenQ (by rfl) (b_len B) (by decide +kernel) (pa_cons (pv 5) pa_nil)) in_add)
      (pss_cons (ps_dput hu (pe_fld (pv 0) rfl) (pv 1) (pv 2) rfl)
      (pss_cons (ps_dput hu (pe_fld (pv 0) rfl) (pv 1) (pv 7) rfl)
      (pss_cons (ps_dput hu (pe_fld (pv 0) rfl) (pv 1) (pv 6) rfl)
      (pss_one (ps_ret (pe_callTy call_listOf (by rfl) (b_list B) (by decide +kernel) (pa_cons (pv 7) pa_nil))))))))))))), ?_⟩
    walk_at "rd"
    refine q_need_hole (K := K) hW rfl rfl rfl ?_
    walk_at "rd"
    refine r_asg ?_
    walk_at "rd"
    refine r_asg ?_
    walk_at "rd"
    refine ⟨g, .ref q, sv, dv, some (n, r), ts, .name n, .name n, rfl, hg, ⟨q, zs, rfl, .inr hq, hts⟩, hsv, ⟨⟨trivial, trivial⟩, ⟨r, rfl⟩, ⟨r, rfl⟩⟩, hd, by omega, hT, fun p2 L e q2 zs2 bv sv2 f H1 k1 hp2 hL he hq2 hzs2 hbv hsv2 hmk => ?_⟩
    have k1 : Kp K H H1 := k1
    have W1_ : Wk K H1 a g D _ := hW.kp k1
    have hmk : MkB H1 f sv2 := hmk
    have W1' := W1_
    obtain ⟨⟨dx1, ha1⟩, hgg1, hdd1, hll1, hmm1, _⟩ := W1'
    walk_at "rd"
    refine r_lrg ?_
    walk_at "rd"
    refine ⟨1, 2, rfl, rfl, RgOk.of_le (by decide) (by decide) (by decide) (by decide), fun l nl => ?_⟩
    rw [show rgV 1 2 = [V.int 1] from rfl]
    have s2 : Same H1 (upd H1 l (.lst [.int 1])) := same_new nl
    have hl2 : (upd H1 l (.lst [.int 1])) l = some (.lst [.int 1]) := upd_same
    have k2 : Kp K H (upd H1 l (.lst [.int 1])) := k1.trans (Kp.of s2 k1.t)
    generalize upd H1 l (.lst [.int 1]) = H2 at s2 hl2 k2 ⊢
    have V2 := W1_.same s2
    have V2' := V2
    obtain ⟨⟨dx2, ha2⟩, hgg2, _, _, _, _⟩ := V2'
    walk_at "rd"
    refine r_bm ?_
    walk_at "rd"
    refine ⟨.inr (.inr (.inl ⟨rfl, .inl ⟨_, hgg2⟩⟩)), ?_⟩
    walk_at "rd"
    refine r_dz ?_
    walk_at "rd"
    refine ⟨l, L, [.inl 1], [.ref e], rfl, SqL.of hl2, SqL.of (s2 _ _ hL), rfl, fun p3 np3 => ?_⟩
    rw [show mergeK [] (([Sum.inl 1] : List Key).zip [V.ref e]) = [(.inl 1, .ref e)] from rfl]
    walk_at "rd"
    have s3 : Same H2 (upd H2 p3 (.dK [(.inl 1, .ref e)])) := same_new np3
    have hp3 : (upd H2 p3 (.dK [(.inl 1, .ref e)])) p3 = some (.dK [(.inl 1, .ref e)]) := upd_same
    have k3 : Kp K H (upd H2 p3 (.dK [(.inl 1, .ref e)])) := k2.trans (Kp.of s3 k2.t)
    have gp3 : D.g ≠ p3 := ne_of_none hgg2 np3
    generalize upd H2 p3 (.dK [(.inl 1, .ref e)]) = H3 at s3 hp3 k3 ⊢
    have V3 := V2.same s3
    refine ⟨D.g, p3, _, _, rfl, rfl, gp3, V3.hg, hp3, (show 2 ≤ 1000 by decide), ?_⟩
    have V4 : Wk K (upd H3 D.g (.dK [(.inl 0, .ref p), (.inl 1, .ref e)])) a g D ⟨[(.inl 0, .ref p), (.inl 1, .ref e)], [], [], [], 1⟩ := V3.setg
    have P4 : Pv K (a :: D.all) H2 (upd H3 D.g (.dK [(.inl 0, .ref p), (.inl 1, .ref e)])) := (Pv.of s3 k2.t).upd (by unfold WD.all; simp) V3.hg trivial
    have t4 : ∀ b o, (∀ kvs, o ≠ .dK kvs) → H3 b = some o → (upd H3 D.g (.dK [(.inl 0, .ref p), (.inl 1, .ref e)])) b = some o := fun b o n e => by
      rw [upd_ne (fun z => by rw [z, V3.hg] at e; exact n _ (Option.some.inj e).symm)]
      exact e
    rw [show mergeK [(.inl 0, .ref p)] [(.inl 1, .ref e)] = ([(.inl 0, .ref p), (.inl 1, .ref e)] : List (Key × V)) from rfl]
    generalize upd H3 D.g (.dK [(.inl 0, .ref p), (.inl 1, .ref e)]) = H4 at V4 P4 t4 ⊢
    have V4' := V4
    obtain ⟨⟨dx4, ha4⟩, _, _, _, _, _⟩ := V4'
    have hL4 : H4 L = some (.lst [.ref e]) := t4 _ _ (fun _ => nofun) (s3 _ _ (s2 _ _ hL))
    walk_at "rd"
    refine r_fa ?_
    walk_at "rd"
    refine ⟨a, He.ga K "Work", dx4, wFs g D 1, .int 1, rfl, ha4, cG, n3, rfl, ?_⟩
    walk_at "rd"
    refine ⟨1, 1, rfl, rfl, dx4, _, ha4, (show 6 < 1000 by decide), ?_⟩
    have V5 : Wk K (upd H4 a (.ins (He.ga K "Work") dx4 (wFs g D 2))) a g D ⟨[(.inl 0, .ref p), (.inl 1, .ref e)], [], [], [], 2⟩ := V4.setn
    have P5 : Pv K (a :: D.all) H2 (upd H4 a (.ins (He.ga K "Work") dx4 (wFs g D 2))) := P4.upd (List.mem_cons_self ..) ha4 trivial
    have t5 : ∀ b o, (∀ C dx fs, o ≠ .ins C dx fs) → H4 b = some o → (upd H4 a (.ins (He.ga K "Work") dx4 (wFs g D 2))) b = some o := fun b o n e => by
      rw [upd_ne (fun z => by rw [z, ha4] at e; exact n _ _ _ (Option.some.inj e).symm)]
      exact e
    rw [show putF "kept_next" (.int (1 + 1)) (wFs g D 1) = wFs g D 2 from rfl]
    generalize upd H4 a (.ins (He.ga K "Work") dx4 (wFs g D 2)) = H5 at V5 P5 t5 ⊢
    have V5' := V5
    obtain ⟨⟨dx5, ha5⟩, _, hdd5, hll5, hmm5, _⟩ := V5'
    have hdd5 : H5 D.d = some (.dK []) := hdd5
    have hll5 : H5 D.l = some (.dK []) := hll5
    have hmm5 : H5 D.m = some (.dK []) := hmm5
    have nk : ∀ {v : V}, putK ([] : List (Key × V)) (.inl 0) v = [(.inl 0, v)] := rfl
    walk_at "rd"
    rw [nk]
    have V6 : Wk K (upd H5 D.d (.dK [(.inl 0, dv)])) a g D ⟨[(.inl 0, .ref p), (.inl 1, .ref e)], [(.inl 0, dv)], [], [], 2⟩ := V5.setd
    have P6 : Pv K (a :: D.all) H2 (upd H5 D.d (.dK [(.inl 0, dv)])) := P5.upd (by unfold WD.all; simp) hdd5 trivial
    generalize upd H5 D.d (.dK [(.inl 0, dv)]) = H6 at V6 P6 ⊢
    have V6' := V6
    obtain ⟨⟨dx6, ha6⟩, _, _, hll6, _, _⟩ := V6'
    have hll6 : H6 D.l = some (.dK []) := hll6
    walk_at "rd"
    rw [nk]
    have V7 : Wk K (upd H6 D.l (.dK [(.inl 0, .ref l)])) a g D ⟨[(.inl 0, .ref p), (.inl 1, .ref e)], [(.inl 0, dv)], [(.inl 0, .ref l)], [], 2⟩ := V6.setl
    have P7 : Pv K (a :: D.all) H2 (upd H6 D.l (.dK [(.inl 0, .ref l)])) := P6.upd (by unfold WD.all; simp) hll6 trivial
    generalize upd H6 D.l (.dK [(.inl 0, .ref l)]) = H7 at V7 P7 ⊢
    have V7' := V7
    obtain ⟨⟨dx7, ha7⟩, _, _, _, hmm7, _⟩ := V7'
    have hmm7 : H7 D.m = some (.dK []) := hmm7
    walk_at "rd"
    rw [nk]
    have V8 : Wk K (upd H7 D.m (.dK [(.inl 0, .ref f)])) a g D ⟨[(.inl 0, .ref p), (.inl 1, .ref e)], [(.inl 0, dv)], [(.inl 0, .ref l)], [(.inl 0, .ref f)], 2⟩ := V7.setm
    have P8 : Pv K (a :: D.all) H2 (upd H7 D.m (.dK [(.inl 0, .ref f)])) := P7.upd (by unfold WD.all; simp) hmm7 trivial
    generalize upd H7 D.m (.dK [(.inl 0, .ref f)]) = H8 at V8 P8 ⊢
    have i2 : Ids H2 (a :: D.all) := V2.ids
    have i0 : Ids H (a :: D.all) := hW.ids
    have Q2 : Pv K (a :: D.all) H H2 := Pv.kp k2
    have hl8 := P8.lst i2 _ _ hl2
    walk_at "rd"
    rename_i l9 nl9
    have s9 : Same H8 (upd H8 l9 (.lst [.int 1])) := same_new nl9
    have P9 : Pv K (a :: D.all) H2 (upd H8 l9 (.lst [.int 1])) := P8.same s9
    have Q9 := Q2.trans P9
    refine kq l9 _ Q9 ⟨p, e, dv, l, f, sv2, V8.same s9, hp0.pv Q9 i0, ⟨q2, bv, zs2, P9.tup i2 _ _ (s2 _ _ he), P9.tup i2 _ _ (s2 _ _ hq2), P9.ts i2 (hzs2.same s2), P9.tm i2 (hbv.same s2)⟩, Q9.dd i0 hd, s9 _ _ hl8, P9.mkB i2 ?_, P9.tm i2 (hsv2.same s2)⟩ upd_same
    obtain ⟨c, cc, h1, h2, c', h3, h4⟩ := hmk
    exact ⟨c, cc, s2 _ _ h1, s2 _ _ h2, c', h3, s2 _ _ h4⟩
end
section
variable {P : Program} {w : World} {K : PySem.W.Frag} {mg : Str → Option Value} {base : Heap}
theorem fn_do_G (B : Bk w K mg) (TB : TBs K mg base) {fd : FuncData} (F : FunD K "do" "Work.do" (defArgs s_Work_do) (defBody s_Work_do) (defScope s_Work_do) [] [] (He.ma K (He.ga K "Work") "do") fd) : FnOk P w K mg base C8.CX0 19 (He.ma K (He.ga K "Work") "do") fd ["self", "hole", "deed"] (sp_do_G K) := by
  refine fokD F sc_Work_do (fun vs H Q E h => ?_) (fun cdv A outer s H vs Q E hr h => ?_)
  · obtain ⟨a, g, r, dv, n, D, ts, rfl, _⟩ := h
    rfl
  · obtain ⟨a, g, r, dv, n, D, ts, rfl, ⟨p, e, dv0, L0, f0, sv0, hW, hp0, he0, hd0, hL0, hmk0, hsv0⟩, hg, hd, htl, hT, kq⟩ := h
    have he0' := he0
    obtain ⟨q, sv, zs, hp, hq, hts, hsv⟩ := he0'
    have hW' := hW
    obtain ⟨⟨dx, ha⟩, hgg, hdd, hll, hmm, _⟩ := hW'
    have cG := c_Work B
    have n1 := n_Work_kept_goals B
    have n2 := n_Work_kept_ground B
    have n3 := n_Work_kept_next B
    have n4 := n_Work_kept_deeds B
    have n5 := n_Work_kept_left B
    have n6 := n_Work_kept_makes B
    have hu := hu_of hr
    refine ⟨_, (pss_cons (ps_expr (C8.pe_mt (ok_need_hole B) hr (by decide) (pv 0) (pa_cons (pv 1) (pa_cons pe_bl pa_nil))))
      (pss_cons (ps_asg (pe_dget hu (pe_fld (pv 0) rfl) (pv 1) (fun _ _ => rfl)) (pg_tup2 (K0 := K) rfl (i := 3) (j := 4) rfl sc_Work_do.nd rfl rfl (Or.inl rfl) (Or.inl rfl) (Or.inl rfl) (Or.inl rfl)))
      (pss_cons (ps_asg (C8.pe_c (ok_done_inG B TB) hr (by decide) (by rfl) (pa_cons (pe_fld (pv 0) rfl) (pa_cons (pv 3) (pa_cons (pv 4) (pa_cons (pv 2) pa_nil))))) (pg_tup2 (K0 := K) rfl (i := 5) (j := 6) rfl sc_Work_do.nd rfl rfl (Or.inl rfl) (Or.inl rfl) (Or.inl rfl) (Or.inl rfl)))
      (pss_cons (ps_set (i := 7) sc_Work_do.nd rfl (Or.inl rfl) (pe_listRg rfl (by rfl) (b_list B) (prg_2 (by rfl) (b_range B) (pe_fld (pv 0) rfl) (pe_op op_add (pe_fld (pv 0) rfl) (pe_callB call_lenQ (by rfl) (b_len B) (by decide +kernel) (pa_cons (pv 5) pa_nil))))))
      (pss_cons (ps_expr (pe_bm PySem.F.plainAttrs_dict PySem.F.slot_dict_update PySem.F.type_dict_update Kz.mtd_update (pe_fld (pv 0) rfl) (pa_cons (Kz.pe_dictZip rfl (by rfl) (b_dict B) (by rfl) (b_zip B) (pa_cons (pv 7) (pa_cons (pv 5) pa_nil))) pa_nil)))
      (pss_cons (ps_fldaug (pv 0) (pe_callB call_lenQ (by rfl) (b_len B) (by decide +kernel) (pa_cons (pv 5) pa_nil)) in_add)
      (pss_cons (ps_dput hu (pe_fld (pv 0) rfl) (pv 1) (pv 2) rfl)
      (pss_cons (ps_dput hu (pe_fld (pv 0) rfl) (pv 1) (pv 7) rfl)
      (pss_cons (ps_dput hu (pe_fld (pv 0) rfl) (pv 1) (pv 6) rfl)
      (pss_one (ps_ret (pe_callTy call_listOf (by rfl) (b_list B) (by decide +kernel) (pa_cons (pv 7) pa_nil))))))))))))), ?_⟩
    walk_at "rd"
    refine q_need_hole (K := K) hW rfl rfl rfl ?_
    walk_at "rd"
    refine r_asg ?_
    walk_at "rd"
    refine r_asg ?_
    walk_at "rd"
    refine ⟨g, .ref q, sv, dv, r, n, ts ++ [.name n], rfl, hg, ⟨q, zs, rfl, .inr hq, hts⟩, hsv, hd, by simp, by rw [List.length_append]; exact Nat.le_trans (Nat.add_le_add_right htl 1) (by decide), hT, fun p2 L tv f H1 k1 hp2 hL htv hmk => ?_⟩
    have k1 : Kp K H H1 := k1
    have W1_ : Wk K H1 a g D _ := hW.kp k1
    have hmk : MkG H1 f tv := hmk
    have W1' := W1_
    obtain ⟨⟨dx1, ha1⟩, hgg1, hdd1, hll1, hmm1, _⟩ := W1'
    walk_at "rd"
    refine r_lrg ?_
    walk_at "rd"
    refine ⟨2, 2, rfl, rfl, RgOk.of_le (by decide) (by decide) (by decide) (by decide), fun l nl => ?_⟩
    rw [show rgV 2 2 = ([] : List V) from rfl]
    have s2 : Same H1 (upd H1 l (.lst [])) := same_new nl
    have hl2 : (upd H1 l (.lst [])) l = some (.lst []) := upd_same
    have k2 : Kp K H (upd H1 l (.lst [])) := k1.trans (Kp.of s2 k1.t)
    generalize upd H1 l (.lst []) = H2 at s2 hl2 k2 ⊢
    have V2 := W1_.same s2
    have V2' := V2
    obtain ⟨⟨dx2, ha2⟩, hgg2, _, _, _, _⟩ := V2'
    walk_at "rd"
    refine r_bm ?_
    walk_at "rd"
    refine ⟨.inr (.inr (.inl ⟨rfl, .inl ⟨_, hgg2⟩⟩)), ?_⟩
    walk_at "rd"
    refine r_dz ?_
    walk_at "rd"
    refine ⟨l, L, [], [], rfl, SqL.of hl2, SqL.of (s2 _ _ hL), rfl, fun p3 np3 => ?_⟩
    rw [show mergeK [] (([] : List Key).zip ([] : List V)) = ([] : List (Key × V)) from rfl]
    walk_at "rd"
    have s3 : Same H2 (upd H2 p3 (.dK [])) := same_new np3
    have hp3 : (upd H2 p3 (.dK [])) p3 = some (.dK []) := upd_same
    have k3 : Kp K H (upd H2 p3 (.dK [])) := k2.trans (Kp.of s3 k2.t)
    have gp3 : D.g ≠ p3 := ne_of_none hgg2 np3
    generalize upd H2 p3 (.dK []) = H3 at s3 hp3 k3 ⊢
    have V3 := V2.same s3
    refine ⟨D.g, p3, _, _, rfl, rfl, gp3, V3.hg, hp3, (show 2 ≤ 1000 by decide), ?_⟩
    have V4 : Wk K (upd H3 D.g (.dK [(.inl 0, .ref p), (.inl 1, .ref e)])) a g D ⟨[(.inl 0, .ref p), (.inl 1, .ref e)], [(.inl 0, dv0)], [(.inl 0, .ref L0)], [(.inl 0, .ref f0)], 2⟩ := V3.setg
    have P4 : Pv K (a :: D.all) H2 (upd H3 D.g (.dK [(.inl 0, .ref p), (.inl 1, .ref e)])) := (Pv.of s3 k2.t).upd (by unfold WD.all; simp) V3.hg trivial
    have t4 : ∀ b o, (∀ kvs, o ≠ .dK kvs) → H3 b = some o → (upd H3 D.g (.dK [(.inl 0, .ref p), (.inl 1, .ref e)])) b = some o := fun b o n e => by
      rw [upd_ne (fun z => by rw [z, V3.hg] at e; exact n _ (Option.some.inj e).symm)]
      exact e
    rw [show mergeK [(.inl 0, .ref p), (.inl 1, .ref e)] [] = ([(.inl 0, .ref p), (.inl 1, .ref e)] : List (Key × V)) from rfl]
    generalize upd H3 D.g (.dK [(.inl 0, .ref p), (.inl 1, .ref e)]) = H4 at V4 P4 t4 ⊢
    have V4' := V4
    obtain ⟨⟨dx4, ha4⟩, _, _, _, _, _⟩ := V4'
    have hL4 : H4 L = some (.lst []) := t4 _ _ (fun _ => nofun) (s3 _ _ (s2 _ _ hL))
    walk_at "rd"
    refine r_fa ?_
    walk_at "rd"
    refine ⟨a, He.ga K "Work", dx4, wFs g D 2, .int 2, rfl, ha4, cG, n3, rfl, ?_⟩
    walk_at "rd"
    refine ⟨2, 0, rfl, rfl, dx4, _, ha4, (show 6 < 1000 by decide), ?_⟩
    have V5 : Wk K (upd H4 a (.ins (He.ga K "Work") dx4 (wFs g D 2))) a g D ⟨[(.inl 0, .ref p), (.inl 1, .ref e)], [(.inl 0, dv0)], [(.inl 0, .ref L0)], [(.inl 0, .ref f0)], 2⟩ := V4.setn
    have P5 : Pv K (a :: D.all) H2 (upd H4 a (.ins (He.ga K "Work") dx4 (wFs g D 2))) := P4.upd (List.mem_cons_self ..) ha4 trivial
    have t5 : ∀ b o, (∀ C dx fs, o ≠ .ins C dx fs) → H4 b = some o → (upd H4 a (.ins (He.ga K "Work") dx4 (wFs g D 2))) b = some o := fun b o n e => by
      rw [upd_ne (fun z => by rw [z, ha4] at e; exact n _ _ _ (Option.some.inj e).symm)]
      exact e
    rw [show putF "kept_next" (.int (2 + 0)) (wFs g D 2) = wFs g D 2 from rfl]
    generalize upd H4 a (.ins (He.ga K "Work") dx4 (wFs g D 2)) = H5 at V5 P5 t5 ⊢
    have V5' := V5
    obtain ⟨⟨dx5, ha5⟩, _, hdd5, hll5, hmm5, _⟩ := V5'
    have hdd5 : H5 D.d = some (.dK [(.inl 0, dv0)]) := hdd5
    have hll5 : H5 D.l = some (.dK [(.inl 0, .ref L0)]) := hll5
    have hmm5 : H5 D.m = some (.dK [(.inl 0, .ref f0)]) := hmm5
    have nk : ∀ {v u : V}, putK ([(.inl 0, u)] : List (Key × V)) (.inl 1) v = [(.inl 0, u), (.inl 1, v)] := rfl
    walk_at "rd"
    rw [nk]
    have V6 : Wk K (upd H5 D.d (.dK [(.inl 0, dv0), (.inl 1, dv)])) a g D ⟨[(.inl 0, .ref p), (.inl 1, .ref e)], [(.inl 0, dv0), (.inl 1, dv)], [(.inl 0, .ref L0)], [(.inl 0, .ref f0)], 2⟩ := V5.setd
    have P6 : Pv K (a :: D.all) H2 (upd H5 D.d (.dK [(.inl 0, dv0), (.inl 1, dv)])) := P5.upd (by unfold WD.all; simp) hdd5 trivial
    generalize upd H5 D.d (.dK [(.inl 0, dv0), (.inl 1, dv)]) = H6 at V6 P6 ⊢
    have V6' := V6
    obtain ⟨⟨dx6, ha6⟩, _, _, hll6, _, _⟩ := V6'
    have hll6 : H6 D.l = some (.dK [(.inl 0, .ref L0)]) := hll6
    walk_at "rd"
    rw [nk]
    have V7 : Wk K (upd H6 D.l (.dK [(.inl 0, .ref L0), (.inl 1, .ref l)])) a g D ⟨[(.inl 0, .ref p), (.inl 1, .ref e)], [(.inl 0, dv0), (.inl 1, dv)], [(.inl 0, .ref L0), (.inl 1, .ref l)], [(.inl 0, .ref f0)], 2⟩ := V6.setl
    have P7 : Pv K (a :: D.all) H2 (upd H6 D.l (.dK [(.inl 0, .ref L0), (.inl 1, .ref l)])) := P6.upd (by unfold WD.all; simp) hll6 trivial
    generalize upd H6 D.l (.dK [(.inl 0, .ref L0), (.inl 1, .ref l)]) = H7 at V7 P7 ⊢
    have V7' := V7
    obtain ⟨⟨dx7, ha7⟩, _, _, _, hmm7, _⟩ := V7'
    have hmm7 : H7 D.m = some (.dK [(.inl 0, .ref f0)]) := hmm7
    walk_at "rd"
    rw [nk]
    have V8 : Wk K (upd H7 D.m (.dK [(.inl 0, .ref f0), (.inl 1, .ref f)])) a g D ⟨[(.inl 0, .ref p), (.inl 1, .ref e)], [(.inl 0, dv0), (.inl 1, dv)], [(.inl 0, .ref L0), (.inl 1, .ref l)], [(.inl 0, .ref f0), (.inl 1, .ref f)], 2⟩ := V7.setm
    have P8 : Pv K (a :: D.all) H2 (upd H7 D.m (.dK [(.inl 0, .ref f0), (.inl 1, .ref f)])) := P7.upd (by unfold WD.all; simp) hmm7 trivial
    generalize upd H7 D.m (.dK [(.inl 0, .ref f0), (.inl 1, .ref f)]) = H8 at V8 P8 ⊢
    have i2 : Ids H2 (a :: D.all) := V2.ids
    have i0 : Ids H (a :: D.all) := hW.ids
    have Q2 : Pv K (a :: D.all) H H2 := Pv.kp k2
    have hl8 := P8.lst i2 _ _ hl2
    walk_at "rd"
    rename_i l9 nl9
    have s9 : Same H8 (upd H8 l9 (.lst [])) := same_new nl9
    have P9 : Pv K (a :: D.all) H2 (upd H8 l9 (.lst [])) := P8.same s9
    have Q9 := Q2.trans P9
    refine kq l9 _ Q9 ⟨p, e, dv0, L0, f0, sv0, dv, l, f, tv, V8.same s9, hp0.pv Q9 i0, he0.pv Q9 i0, Q9.dd i0 hd0, Q9.lst i0 _ _ hL0, Q9.mkB i0 hmk0, Q9.tm i0 hsv0, Q9.dd i0 hd, s9 _ _ hl8, P9.mkG i2 ?_, P9.tm i2 (htv.same s2)⟩ upd_same
    obtain ⟨c, cc, h1, h2, c', h3, h4⟩ := hmk
    exact ⟨c, cc, s2 _ _ h1, s2 _ _ h2, c', h3, s2 _ _ h4⟩
end
section
variable {P : Program} {w : World} {K : PySem.W.Frag} {mg : Str → Option Value} {base : Heap}
theorem r_slL1 {a : Addr} {x : V} {xs : List V} {H : Hp} {Q : VK} (hp : SqL K H a (x :: xs)) (h : ∀ p, H p = none → Q (.ref p) (upd H p (.lst xs))) : rSlL K (.ref a) (some 1) none H Q := ⟨a, x :: xs, rfl, hp, by rw [cut1]; exact h⟩
theorem r_dpop1 {td ty : TE} {σ : L2.St} {H : Hp} {Q : VK} (h : td σ H fun x H1 => ∃ a, x = .ref a ∧ IsD H1 a ∧ ty σ H1 fun y H2 => ∃ kvs k v, H2 a = some (.dK kvs) ∧ y = kV k ∧ valV kvs k = some v ∧ Q v (upd H2 a (.dK (dropK kvs k)))) : tDPop1 td ty σ H Q := h
theorem sc_Work_undo : FnScope ["self", "hole", "one"] ["self", "hole"] (defScope s_Work_undo) := ⟨rfl, rfl, rfl, by decide +kernel, rfl, by decide +kernel, by decide +kernel⟩
def sp_undo (K : PySem.W.Frag) : Sp := fun vs H Q _ => ∃ (a : Addr) (g : V) (n : Str) (D : WD) (ts : List T), vs = [.ref a, .int 1] ∧ W2 K H g ts n a D ∧ Tbs K H ∧
  ∀ l H', Pv K (a :: D.all) H H' → W1 K H' g ts n a D → H' l = some (.lst [.int 1]) → Q (.ref l) H'
theorem fn_undo (B : Bk w K mg) {fd : FuncData} (F : FunD K "undo" "Work.undo" (defArgs s_Work_undo) (defBody s_Work_undo) (defScope s_Work_undo) [] [] (He.ma K (He.ga K "Work") "undo") fd) : FnOk P w K mg base C8.CX0 3 (He.ma K (He.ga K "Work") "undo") fd ["self", "hole"] (sp_undo K) := by
  refine fokD F sc_Work_undo (fun vs H Q E h => ?_) (fun cdv A outer s H vs Q E hr h => ?_)
  · obtain ⟨a, g, n, D, ts, rfl, _⟩ := h
    rfl
  · obtain ⟨a, g, n, D, ts, rfl, ⟨p, e, dv, L, f, sv, dv2, L2, f2, tv, hW, hp0, he0, hd, hL, hmk, hsv, hd2, hL2, hmk2, htv⟩, hT, kq⟩ := h
    have hW' := hW
    obtain ⟨⟨dx, ha⟩, hgg, hdd, hll, hmm, _⟩ := hW'
    have cG := c_Work B
    have n4 := n_Work_kept_deeds B
    have n5 := n_Work_kept_left B
    have n6 := n_Work_kept_makes B
    have hu := hu_of hr
    refine ⟨_, (pss_cons (ps_expr (C8.pe_mt (ok_need_hole B) hr (by decide) (pv 0) (pa_cons (pv 1) (pa_cons pe_bl pa_nil))))
      (pss_cons (ps_for PassesOwn.never rfl (pi_list (pe_slice sl_list (C8.pe_mt (ok_beneath B) hr (by decide) (pv 0) (pa_cons (pv 1) pa_nil)) (po_some pe_int) po_none)) (pg_name (i := 2) sc_Work_undo.nd rfl (Or.inl rfl)) (pss_cons ps_never (pss_cons ps_never (pss_cons ps_never (pss_one ps_never)))))
      (pss_cons (ps_expr (pe_dpop1 (pe_fld (pv 0) rfl) (pv 1) ⟨rfl, rfl, rfl, rfl⟩))
      (pss_cons (ps_expr (pe_dpop1 (pe_fld (pv 0) rfl) (pv 1) ⟨rfl, rfl, rfl, rfl⟩))
      (pss_cons (ps_expr (pe_dpop1 (pe_fld (pv 0) rfl) (pv 1) ⟨rfl, rfl, rfl, rfl⟩))
      (pss_one (ps_ret (C8.pe_mt0 (ok_holes B) hr (by decide) (pv 0))))))))), ?_⟩
    walk_at "rd"
    refine q_need_hole (K := K) hW (v := .ref e) (o := some dv2) rfl rfl rfl ?_
    walk_at "rd"
    refine q_beneath (K := K) (xs := [1]) hW rfl (by decide) (fun i x hx => ?_) (fun b0 H1 s1 hb0 => ?_)
    · cases i with
      | zero =>
        cases hx
        exact .inr ⟨L2, rfl, hL2⟩
      | succ i => cases hx
    walk_at "rd"
    refine r_slL1 (K := K) (SqL.of hb0) (fun l0 nl0 => ?_)
    refine ⟨l0, rfl, ⟨_, SqL.of upd_same⟩, for0 ⟨_, SqL.of upd_same, Nat.le_refl _⟩ ?_⟩
    have s2 : Same H (upd H1 l0 (.lst [])) := s1.trans (same_new nl0)
    have i0 : Ids H (a :: D.all) := hW.ids
    have P2 : Pv K (a :: D.all) H (upd H1 l0 (.lst [])) := Pv.of s2 hT
    have V2 := hW.same s2
    simp only [List.map_nil]
    generalize upd H1 l0 (.lst []) = H2 at s2 P2 V2 ⊢
    have V2' := V2
    obtain ⟨⟨dx2, ha2⟩, _, hdd2, _, _, _⟩ := V2'
    have hdd2 : H2 D.d = some (.dK [(.inl 0, dv), (.inl 1, dv2)]) := hdd2
    walk_at "rd"
    refine r_dpop1 ?_
    walk_at "rd"
    refine ⟨.inl ⟨_, .inl hdd2⟩, ?_⟩
    walk_at "rd"
    refine ⟨_, .inl 1, dv2, hdd2, rfl, rfl, ?_⟩
    have V3 : Wk K (upd H2 D.d (.dK [(.inl 0, dv)])) a g D ⟨[(.inl 0, .ref p), (.inl 1, .ref e)], [(.inl 0, dv)], [(.inl 0, .ref L), (.inl 1, .ref L2)], [(.inl 0, .ref f), (.inl 1, .ref f2)], 2⟩ := V2.setd
    have P3 : Pv K (a :: D.all) H (upd H2 D.d (.dK [(.inl 0, dv)])) := P2.upd (by unfold WD.all; simp) hdd2 trivial
    have nk : ∀ {v u : V}, dropK ([(.inl 0, u), (.inl 1, v)] : List (Key × V)) (.inl 1) = [(.inl 0, u)] := rfl
    rw [nk]
    generalize upd H2 D.d (.dK [(.inl 0, dv)]) = H3 at V3 P3 ⊢
    have V3' := V3
    obtain ⟨⟨dx3, ha3⟩, _, _, hll3, _, _⟩ := V3'
    have hll3 : H3 D.l = some (.dK [(.inl 0, .ref L), (.inl 1, .ref L2)]) := hll3
    walk_at "rd"
    refine r_dpop1 ?_
    walk_at "rd"
    refine ⟨.inl ⟨_, .inl hll3⟩, ?_⟩
    walk_at "rd"
    refine ⟨_, .inl 1, .ref L2, hll3, rfl, rfl, ?_⟩
    have V4 : Wk K (upd H3 D.l (.dK [(.inl 0, .ref L)])) a g D ⟨[(.inl 0, .ref p), (.inl 1, .ref e)], [(.inl 0, dv)], [(.inl 0, .ref L)], [(.inl 0, .ref f), (.inl 1, .ref f2)], 2⟩ := V3.setl
    have P4 : Pv K (a :: D.all) H (upd H3 D.l (.dK [(.inl 0, .ref L)])) := P3.upd (by unfold WD.all; simp) hll3 trivial
    rw [nk]
    generalize upd H3 D.l (.dK [(.inl 0, .ref L)]) = H4 at V4 P4 ⊢
    have V4' := V4
    obtain ⟨⟨dx4, ha4⟩, _, _, _, hmm4, _⟩ := V4'
    have hmm4 : H4 D.m = some (.dK [(.inl 0, .ref f), (.inl 1, .ref f2)]) := hmm4
    walk_at "rd"
    refine r_dpop1 ?_
    walk_at "rd"
    refine ⟨.inl ⟨_, .inl hmm4⟩, ?_⟩
    walk_at "rd"
    refine ⟨_, .inl 1, .ref f2, hmm4, rfl, rfl, ?_⟩
    have V5 : Wk K (upd H4 D.m (.dK [(.inl 0, .ref f)])) a g D ⟨[(.inl 0, .ref p), (.inl 1, .ref e)], [(.inl 0, dv)], [(.inl 0, .ref L)], [(.inl 0, .ref f)], 2⟩ := V4.setm
    have P5 : Pv K (a :: D.all) H (upd H4 D.m (.dK [(.inl 0, .ref f)])) := P4.upd (by unfold WD.all; simp) hmm4 trivial
    rw [nk]
    generalize upd H4 D.m (.dK [(.inl 0, .ref f)]) = H5 at V5 P5 ⊢
    have V5' := V5
    obtain ⟨⟨dx5, ha5⟩, _⟩ := V5'
    have hL5 := P5.lst i0 _ _ hL
    walk_at "rd"
    refine q_holes (K := K) (xs := [0, 1]) V5 rfl (by decide) (fun i x hx => ?_) (fun b1 H6 s6 hb1 => ?_)
    · cases i with
      | zero =>
        cases hx
        exact .inr ⟨L, rfl, hL5⟩
      | succ i =>
        cases i with
        | zero =>
          cases hx
          exact .inl ⟨rfl, rfl⟩
        | succ i => cases hx
    have P6 := P5.same s6
    exact kq b1 H6 P6 ⟨p, e, dv, L, f, sv, V5.same s6, hp0.pv P6 i0, he0.pv P6 i0, P6.dd i0 hd, P6.lst i0 _ _ hL, P6.mkB i0 hmk, P6.tm i0 hsv⟩ hb1
end
section
variable {P : Program} {w : World} {K : PySem.W.Frag} {mg : Str → Option Value} {base : Heap}
theorem met_of {C f : Addr} {m nm qual : Str} {st : Stmt} {fd : FuncData} {ps : List Str} {k : Nat} {sp : Sp} (c : Cls K C) (me : Meth K C m f) (F : FunD K nm qual (defArgs st) (defBody st) (defScope st) [] [] f fd) (ok : FnOk P w K mg base C8.CX0 k f fd ps sp)
    (hb : ∀ (kV doc pm : Value) (an : Option Addr) (cdv ct : Value) (us : List Value), us.length = ps.length → bindArgs (PySem.W.fnOf nm qual (defArgs st) (defBody st) (defScope st) .none kV doc pm an cdv ct) ⟨us, []⟩ = pure (ps.zip us)) : C8.Met P w K mg base k C m sp [] := ⟨f, fd, ps, [], c, me, ok, F.bindsN hb, .nil⟩
theorem ok_put_back (B : Bk w K mg) : C8.Met P w K mg base 3 (He.ga K "Work") "put_back" (sp_put_back K) [] := by
  obtain ⟨fd, F⟩ := D_Work_put_back B
  exact met_of (c_Work B) (m_Work_put_back B) F (fn_put_back B F) (fun _ _ _ _ _ _ us hl => match us, hl with | [_, _], _ => rfl)
theorem but_id {H H' : Hp} {a : Addr} {o o' : HO} (b : But a H H') (h : H a = some o) (i : IsId o) (h' : H' a = some o') (t : Tbs K H) : Pv K [a] H H' := by
  refine ⟨fun c u m e _ => b c u (fun z => m (by rw [z]; exact List.mem_cons_self ..)) e, fun c e => ?_, fun p hp => ?_⟩
  · by_cases z : c = a
    · rw [z, h'] at e
      cases e
    · cases q : H c with
      | none => rfl
      | some u =>
        rw [b c u z q] at e
        cases e
  · obtain ⟨ps, h1, h2, h3⟩ := t p hp
    have ne : ∀ {c : Addr} {u : HO}, H c = some u → ¬ IsId u → c ≠ a := fun e n z => by
      rw [z, h] at e
      cases e
      exact n i
    refine ⟨ps, b _ _ (ne h1 (fun z => z)) h1, h2, fun pos cv hcv => ?_⟩
    obtain ⟨c1, e1, e2⟩ := h3 pos cv hcv
    exact ⟨c1, e1, b _ _ (ne e2 (fun z => z)) e2⟩
theorem but_goal {H H' : Hp} {a C dx : Addr} {fs : List (Str × V)} (b : But a H H') (h : H a = some (.ins C dx fs)) {p : Addr} {ts : List T} {t : T} (g : GoalAt H p ts t) : GoalAt H' p ts t := by
  obtain ⟨q, sv, zs, h1, h2, h3, h4⟩ := g
  exact ⟨q, sv, zs, but_tup b h _ _ h1, but_tup b h _ _ h2, h3.mono (but_tup b h), h4.mono (but_tup b h)⟩
theorem q_put_back0 {H : Hp} {Q : VK} {E : XK} {a b : Addr} {g g' : V} {D D' : WD} {S : WS} {ts : List T} {t : T} (hab : a ≠ b) (h1 : Wk K H a g D S) (h2 : W0 K H g' ts t b D')
    (k : ∀ D2 L H', But a H H' → W0 K H' g ts t a D2 → (∀ c ∈ D2.all, H c = none) → H' L = some (.lst [.int 0]) → Q (.ref L) H') : sp_put_back K (.ref a :: ([.ref b] ++ [])) H Q E := by
  obtain ⟨p, hV, hp⟩ := h2
  refine ⟨a, b, g, g', D, D', S, _, [0], rfl, hab, h1, hV, rfl, (by decide), fun i x hx => ?_, fun D2 L H' b' hW hn hL => ?_⟩
  · cases i with
    | zero =>
      cases hx
      exact .inl ⟨rfl, rfl⟩
    | succ i => cases hx
  · obtain ⟨dx, ha⟩ := h1.at_
    exact k D2 L H' b' ⟨p, hW, but_goal b' ha hp⟩ hn hL
/-- a room that a work may have: None, a list, a tuple -/
def RmN (H : Hp) (ts : List T) (rv : V) : Prop := (rv = .non ∧ ts = []) ∨ RmK false H ts rv ∨ RmK true H ts rv
theorem RmN.same {H H' : Hp} (s : Same H H') {ts : List T} {rv : V} (h : RmN H ts rv) : RmN H' ts rv := h.imp id (Or.imp (·.same s) (·.same s))
theorem q_mkWk {H : Hp} {R : Addr → Hp → Prop} {E : XK} {g sv rv r : V} {n : Str} {ts : List T} {t : T} {h : Nat} (h1 : Gr K H (some (n, r)) g) (h2 : Tm H t sv) (h3 : t.ok) (h4 : t.depth < 2) (h5 : Says (some (n, r)) ts t (.kind h)) (h6 : RmN H ts rv)
    (k : ∀ a D H', Same H H' → W0 K H' g ts t a D → H a = none → (∀ c ∈ D.all, H c = none) → R a H') (x dx : Addr) (nx : H x = none) (nd : H dx = none) (ne : dx ≠ x) :
    sp_Work_init K [.ref x, g, sv, rv] (upd (upd H dx (.own x)) x (.ins (He.ga K "Work") dx [])) (fun v H2 => v = .non ∧ R x H2) E := by
  have s1 : Same H (upd (upd H dx (.own x)) x (.ins (He.ga K "Work") dx [])) := (same_new nd).trans (same_new (by rw [upd_ne ne.symm]; exact nx))
  refine ⟨x, dx, g, sv, rv, r, n, ts, t, h, rfl, upd_same, h1.same s1, h2.same s1, h3, h4, h5, h6.same s1, fun D p q zs H' b hW hp hq hts hn => ⟨rfl, ?_⟩⟩
  have s2 := same_butx s1 nx b
  refine k x D H' s2 ⟨p, hW, q, sv, zs, hp, hq, hts, h2.same s2⟩ nx fun c hc => ?_
  have z := hn c hc
  cases e : H c with
  | none => rfl
  | some o =>
    rw [s1 _ _ e] at z
    cases z
theorem binds_Work4 {fd : FuncData} (F : FunD K "__init__" "Work.__init__" (defArgs s_Work_init) (defBody s_Work_init) (defScope s_Work_init) [V.non] [] (He.ma K (He.ga K "Work") "__init__") fd) : ∃ ds, Vals [] ds ∧ Binds K fd ["self", "ground", "saying", "room"] ds :=
  F.binds1 4 1 (by decide) rfl (fun T kV doc pm an cdv ct us its l1 l2 => match us, l1, its, l2 with
    | [a, b, c, d], _, [i], _ => ⟨_, rfl, rfl⟩)
theorem mk_Work (B : Bk w K mg) : C8.Mak P w K mg base 20 "Work" (He.ga K "Work") (sp_Work_init K) [] := by
  obtain ⟨fd, F⟩ := D_Work_init B
  obtain ⟨ds, d, b⟩ := binds_Work4 F
  exact ⟨_, fd, _, ds, k_Work B, fn_Work_init B F, g_Work B, b, d⟩
theorem sc_Work_twin : FnScope ["self", "room", "saying", "other"] ["self"] (defScope s_Work_twin) := ⟨rfl, rfl, rfl, by decide +kernel, rfl, by decide +kernel, by decide +kernel⟩
def sp_twin (K : PySem.W.Frag) : Sp := fun vs H Q _ => ∃ (a : Addr) (g r : V) (n : Str) (D : WD) (ts : List T) (t : T) (h : Nat), vs = [.ref a] ∧ W0 K H g ts t a D ∧ Gr K H (some (n, r)) g ∧ t.ok ∧ t.depth < 2 ∧ Says (some (n, r)) ts t (.kind h) ∧ (∀ t ∈ ts, ∃ h, t = .kind h ∧ h < 5) ∧ ts.length ≤ 3 ∧
  ∀ b D2 H', Same H H' → W0 K H' g ts t b D2 → H b = none → (∀ c ∈ D2.all, H c = none) → Q (.ref b) H'
theorem ok_twin (B : Bk w K mg) : C8.Met P w K mg base 22 (He.ga K "Work") "twin" (sp_twin K) [] := by
  obtain ⟨fd, F⟩ := D_Work_twin B
  refine metD (c_Work B) (m_Work_twin B) F sc_Work_twin (fun _ _ _ _ _ _ us hl => match us, hl with | [_], _ => rfl) (fun vs H Q E h => ?_) (fun cdv A outer s H vs Q E hr h => ?_)
  · obtain ⟨a, g, r, n, D, ts, t, h, rfl, _⟩ := h
    rfl
  · obtain ⟨a, g, r, n, D, ts, t, h, rfl, hW0, hg, hto, htd, hsay, hkk, htl, kq⟩ := h
    have hW0' := hW0
    obtain ⟨p, hW, q, sv, zs, hp, hq, hts, hsv⟩ := hW0'
    have hW' := hW
    obtain ⟨⟨dx, ha⟩, hgg, _, _, _, _⟩ := hW'
    have cG := c_Work B
    have n1 := n_Work_kept_goals B
    have n2 := n_Work_kept_ground B
    have hu := hu_of hr
    refine ⟨_, (pss_cons (ps_asg (pe_dget hu (pe_fld (pv 0) rfl) pe_int (fun _ _ => rfl)) (pg_tup2 (K0 := K) rfl (i := 1) (j := 2) rfl sc_Work_twin.nd rfl rfl (Or.inl rfl) (Or.inl rfl) (Or.inl rfl) (Or.inl rfl)))
      (pss_cons (ps_set (i := 3) sc_Work_twin.nd rfl (Or.inl rfl) (C8.pe_mk (mk_Work B) hr (by decide) (by rfl) (pa_cons (pe_fld (pv 0) rfl) (pa_cons (pv 2) (pa_cons (pv 1) pa_nil)))))
      (pss_cons (ps_expr (C8.pe_mt (ok_put_back B) hr (by decide) (pv 3) (pa_cons (pv 0) pa_nil)))
      (pss_one (ps_ret (pv 3)))))), ?_⟩
    walk_at "rd"
    refine r_asg ?_
    walk_at "rd"
    refine r_make ?_
    walk_at "rd"
    refine q_mkWk (K := K) (ts := ts) (rv := .ref q) hg hsv hto htd hsay (.inr (.inr ⟨q, zs, rfl, hq, hts, hkk, htl⟩)) (fun b D1 H1 s1 hV hb hn => ?_)
    have hV' := hV
    obtain ⟨p1, hV1, _⟩ := hV'
    obtain ⟨dx1, hb1⟩ := hV1.at_
    have hab : b ≠ a := fun z => by rw [z, ha] at hb; cases hb
    walk_at "rd"
    refine q_put_back0 (K := K) hab hV1 ⟨p, hW.same s1, q, sv, zs, s1 _ _ hp, s1 _ _ hq, hts.same s1, hsv.same s1⟩ (fun D2 L H2 b2 hV2 hn2 hL => ?_)
    walk_at "rd"
    refine kq b D2 H2 (same_but s1 hb b2) hV2 hb fun c hc => ?_
    have z := hn2 c hc
    cases e : H c with
    | none => rfl
    | some o =>
      rw [s1 _ _ e] at z
      cases z
end
section
variable {P : Program} {w : World} {K : PySem.W.Frag} {mg : Str → Option Value} {base : Heap}
theorem r_yes {σ : L2.St} {H : Hp} {Q : Bool → Hp → Prop} (h : Q true H) : tYes σ H Q := h
def rSDI : List V → Hp → VK → Prop := fun xs H Q => ∃ (a : Addr) (kvs : List (Key × V)) (ks : List Int), xs = [.ref a] ∧ Rd H a (.dK kvs) ∧ kvs.map (·.1) = ks.map Sum.inl ∧ ks.length < 64 ∧
    ∀ (ys : List Int) (p : Addr), ys.Perm ks → ys.Pairwise (· ≤ ·) → H p = none → Q (.ref p) (upd H p (.lst (ys.map V.int)))
theorem cr_sDI {X : Cx} (hc : X.calm = true) : CallR X (.builtin "sorted") rSDI := call_sortedDI hc
theorem call_listOfK {X : Cx} {K0 : PySem.W.Frag} (hK : X.K = K0) : CallR X (.type "list") (rListOf K0) := by
  subst hK
  exact call_listOf
theorem perm01 {ys : List Int} (h : ys.Perm [0, 1]) (s : ys.Pairwise (· ≤ ·)) : ys = [0, 1] := h.eq_of_pairwise (fun _ _ _ _ => Int.le_antisymm) s (by decide)
theorem perm10 {ys : List Int} (h : ys.Perm [0, 1]) (s : ys.Pairwise (· ≥ ·)) : ys = [1, 0] := (h.trans (List.Perm.swap 1 0 [])).eq_of_pairwise (fun _ _ _ _ h1 h2 => Int.le_antisymm h2 h1) s (by decide)
def sp_filled (K : PySem.W.Frag) : Sp := fun vs H Q _ => ∃ (a : Addr) (g : V) (D : WD) (S : WS), vs = [.ref a] ∧ Wk K H a g D S ∧ ((S.deeds = [] ∧ ∀ L H', Same H H' → H' L = some (.lst []) → Q (.ref L) H') ∨
  ∃ dv dv2 L1 L2 z1 z2, S.deeds = [(.inl 0, dv), (.inl 1, dv2)] ∧ S.left = [(.inl 0, .ref L1), (.inl 1, .ref L2)] ∧ H L1 = some (.lst z1) ∧ H L2 = some (.lst z2) ∧
    ∀ L p0 p1 l0 l1 H', Same H H' → H' L = some (.lst [.ref p0, .ref p1]) → H' p0 = some (.tup [.int 0, dv, .ref l0]) → H' l0 = some (.lst z1) → H' p1 = some (.tup [.int 1, dv2, .ref l1]) → H' l1 = some (.lst z2) → Q (.ref L) H')
theorem sc_Work_filled : FnScope ["self", "hole"] ["self"] (defScope s_Work_filled) := ⟨rfl, rfl, rfl, by decide +kernel, rfl, by decide +kernel, by decide +kernel⟩
theorem ok_filled (B : Bk w K mg) : C8.Met P w K mg base 1 (He.ga K "Work") "filled" (sp_filled K) [] := by
  obtain ⟨fd, F⟩ := D_Work_filled B
  refine metD (c_Work B) (m_Work_filled B) F sc_Work_filled (fun _ _ _ _ _ _ us hl => match us, hl with | [_], _ => rfl) (fun vs H Q E h => ?_) (fun cdv A outer s H vs Q E hr h => ?_)
  · obtain ⟨a, g, D, S, rfl, _⟩ := h
    rfl
  · obtain ⟨a, g, D, S, rfl, hW, kq⟩ := h
    have hW' := hW
    obtain ⟨⟨dx, ha⟩, hgg, hdd, hll, hmm, _⟩ := hW'
    have cG := c_Work B
    have n1 := n_Work_kept_deeds B
    have n2 := n_Work_kept_left B
    have hu := hu_of hr
    refine ⟨_, (pss_one (ps_ret (pe_lc (own := [("hole", 1)]) (tt := tYes) rfl sc_Work_filled.nd (pi_list (pe_callB (cr_sDI rfl) (by rfl) (b_sorted B) (by decide +kernel) (pa_cons (pe_fld (pv 0) rfl) pa_nil))) (blkOk_by (N := ["self", "hole"]) (sc := defScope s_Work_filled) (by decide +kernel)) (fun _ _ _ _ _ => (pg_name (i := 1) sc_Work_filled.nd rfl (Or.inl rfl))) (fun _ _ _ _ _ => pts_nil)
      (fun _ _ _ _ _ => (pe_tup (pa_cons (pv 1) (pa_cons (pe_dget hu (pe_fldK (K0 := K) rfl (pv 0) rfl) (pv 1) (fun _ _ => rfl)) (pa_cons (pe_callTy (call_listOfK (K0 := K) rfl) (by rfl) (b_list B) (by decide +kernel) (pa_cons (pe_dget hu (pe_fldK (K0 := K) rfl (pv 0) rfl) (pv 1) (fun _ _ => rfl)) pa_nil)) pa_nil)))))))), ?_⟩
    walk_at "rd"
    rcases kq with ⟨e0, kq⟩ | ⟨dv, dv2, L1, L2, z1, z2, e1, e2, hL1, hL2, kq⟩
    · rw [e0] at hdd
      refine ⟨D.d, [], [], rfl, .inl hdd, rfl, (show 0 < 64 by decide), fun ys q h1 _ nq => ?_⟩
      have ey : ys = [] := h1.eq_nil
      subst ey
      refine ⟨q, rfl, ⟨_, SqL.of upd_same⟩, fun L hL => ⟨fun i m H' => i = 0 ∧ Same (upd H q (.lst [])) H' ∧ H' L = some (.lst []), ⟨0, rfl, same_new hL, upd_same⟩, ?_⟩⟩
      rintro i m H2 ⟨rfl, s2, hL2⟩
      exact .inl ⟨⟨_, SqL.of (s2 _ _ upd_same), Nat.zero_le _⟩, kq _ _ ((same_new nq).trans s2) hL2⟩
    · rw [e1] at hdd
      rw [e2] at hll
      refine ⟨D.d, _, [0, 1], rfl, .inl hdd, rfl, (show 2 < 64 by decide), fun ys q h1 h2 nq => ?_⟩
      have ey := perm01 h1 h2
      subst ey
      have s1 : Same H (upd H q (.lst [.int 0, .int 1])) := same_new nq
      have hq1 : (upd H q (.lst [.int 0, .int 1])) q = some (.lst [.int 0, .int 1]) := upd_same
      rw [show ([0, 1] : List Int).map V.int = [.int 0, .int 1] from rfl]
      generalize upd H q (.lst [.int 0, .int 1]) = H1 at s1 hq1 ⊢
      refine ⟨q, rfl, ⟨_, SqL.of hq1⟩, fun L hL => ⟨fun i m H' => Same H1 H' ∧ ((i = 0 ∧ m = 2 ∧ H' L = some (.lst [])) ∨ (i = 1 ∧ m = 1 ∧ ∃ p0 l0, H' L = some (.lst [.ref p0]) ∧ H' p0 = some (.tup [.int 0, dv, .ref l0]) ∧ H' l0 = some (.lst z1) ∧ l0 ≠ L) ∨
        (i = 2 ∧ m = 0 ∧ ∃ p0 l0 p1 l1, H' L = some (.lst [.ref p0, .ref p1]) ∧ H' p0 = some (.tup [.int 0, dv, .ref l0]) ∧ H' l0 = some (.lst z1) ∧ H' p1 = some (.tup [.int 1, dv2, .ref l1]) ∧ H' l1 = some (.lst z2))), ⟨2, same_new hL, .inl ⟨rfl, rfl, upd_same⟩⟩, ?_⟩⟩
      rintro i m H2 ⟨s2, hh⟩
      have ha2 := s2 _ _ (s1 _ _ ha)
      have hd2 := s2 _ _ (s1 _ _ hdd)
      have hl2 := s2 _ _ (s1 _ _ hll)
      have hL1' := s2 _ _ (s1 _ _ hL1)
      have hL2' := s2 _ _ (s1 _ _ hL2)
      have hq2 := s2 _ _ hq1
      have L1n : L1 ≠ L := ne_of_none (s1 _ _ hL1) hL
      have L2n : L2 ≠ L := ne_of_none (s1 _ _ hL2) hL
      rcases hh with ⟨rfl, rfl, hL0⟩ | ⟨rfl, rfl, p0, l0, hL0, hp0, hl0, ln⟩ | ⟨rfl, rfl, p0, l0, p1, l1, hL0, hp0, hl0, hp1, hl1⟩
      · refine .inr ⟨⟨_, _, SqL.of hq2, rfl⟩, fun H' => Same H1 H' ∧ ∃ p0 l0, H' L = some (.lst [.ref p0]) ∧ H' p0 = some (.tup [.int 0, dv, .ref l0]) ∧ H' l0 = some (.lst z1) ∧ l0 ≠ L, fun H' z => ⟨1, by decide, z.1, .inr (.inl ⟨rfl, rfl, z.2⟩)⟩, fun x H3 hy => ?_⟩
        obtain ⟨rfl, e⟩ := itl_eq hy (SqL.of hq2)
        cases e
        walk_at "rd"
        refine ⟨rfl, ?_⟩
        refine r_yes ?_
        walk_at "rd"
        rename_i l0 nl0 p0 np0
        have l0L : l0 ≠ L := fun z => by rw [z, hL0] at nl0; cases nl0
        have p0L : p0 ≠ L := fun z => by rw [z, upd_ne l0L.symm, hL0] at np0; cases np0
        have p0l0 : p0 ≠ l0 := fun z => by rw [z, upd_same] at np0; cases np0
        refine ⟨[], ?_, (show 0 < sizeLine by decide), ?_, p0, l0, upd_same, ?_, ?_, l0L⟩
        · rw [upd_ne p0L.symm, upd_ne l0L.symm]
          exact hL0
        · exact same_putnew ((s2.trans (same_new nl0)).trans (same_new np0)) hL
        · rw [upd_ne p0L, upd_same]
        · rw [upd_ne l0L, upd_ne p0l0.symm, upd_same]
      · refine .inr ⟨⟨_, _, SqL.of hq2, rfl⟩, fun H' => Same H1 H' ∧ ∃ p0 l0 p1 l1, H' L = some (.lst [.ref p0, .ref p1]) ∧ H' p0 = some (.tup [.int 0, dv, .ref l0]) ∧ H' l0 = some (.lst z1) ∧ H' p1 = some (.tup [.int 1, dv2, .ref l1]) ∧ H' l1 = some (.lst z2), fun H' z => ⟨0, by decide, z.1, .inr (.inr ⟨rfl, rfl, z.2⟩)⟩, fun x H3 hy => ?_⟩
        obtain ⟨rfl, e⟩ := itl_eq hy (SqL.of hq2)
        cases e
        walk_at "rd"
        refine ⟨rfl, ?_⟩
        refine r_yes ?_
        walk_at "rd"
        rename_i l1 nl1 p1 np1
        have l1L : l1 ≠ L := fun z => by rw [z, hL0] at nl1; cases nl1
        have p1L : p1 ≠ L := fun z => by rw [z, upd_ne l1L.symm, hL0] at np1; cases np1
        have p1l1 : p1 ≠ l1 := fun z => by rw [z, upd_same] at np1; cases np1
        have s4 := (same_new (o := .lst z2) nl1).trans (same_new (o := .tup [.int 1, dv2, .ref l1]) np1)
        refine ⟨[.ref p0], s4 _ _ hL0, (show 1 < sizeLine by decide), ?_, p0, l0, p1, l1, upd_same, ?_, ?_, ?_, ?_⟩
        · exact same_putnew (s2.trans s4) hL
        · rw [upd_ne (fun z => by rw [z, hL0] at hp0; cases hp0)]
          exact s4 _ _ hp0
        · rw [upd_ne ln]
          exact s4 _ _ hl0
        · rw [upd_ne p1L, upd_same]
        · rw [upd_ne l1L, upd_ne p1l1.symm, upd_same]
      · exact .inl ⟨⟨_, SqL.of hq2, Nat.le_refl _⟩, kq _ _ _ _ _ _ (s1.trans s2) hL0 hp0 hl0 hp1 hl1⟩
end
section
variable {P : Program} {w : World} {K : PySem.W.Frag} {mg : Str → Option Value} {base : Heap}
theorem len_at (B : Bk w K mg) : PySem.W.findIn K (.ref (He.ga K "Work")) "__len__" = some (some (.ref (He.ma K (He.ga K "Work") "__len__"))) ∧ PySem.W.isFn K (.ref (He.ma K (He.ga K "Work") "__len__")) = true := by
  have e := (He.ba (He.ba (He.ba (He.ba (He.ba (exO_at B)).2).2).2).2).2
  unfold lenB at e
  exact ⟨beq_iff_eq.mp (He.ba e).1, (He.ba e).2⟩
theorem r_callM {L : Hp → Addr → Prop} {sp : Addr → Sp} {tf : TE} {t : TA} {σ : L2.St} {H : Hp} {Q : VK} (h : tf σ H fun y H1 => ∃ f, y = .ref f ∧ L H1 f ∧ t σ H1 fun vs H2 => L H2 f ∧ sp f vs H2 Q C8.E0) : Kl.tCallM L sp tf t σ H Q := h
theorem mkAny_lam : ∀ (H : Hp) (f : Addr), MkAny H f → ∃ M, H f = some (Kl.LamO f M) := fun H f h => by
  rcases h with ⟨v, c, cc, h, _⟩ | ⟨v, c, cc, h, _⟩
  · exact ⟨_, h⟩
  · exact ⟨_, h⟩
theorem MkB.same {H H' : Hp} (s : Same H H') {f : Addr} {v : V} (h : MkB H f v) : MkB H' f v := by
  obtain ⟨c, cc, h1, h2, c', h3, h4⟩ := h
  exact ⟨c, cc, s _ _ h1, s _ _ h2, c', h3, s _ _ h4⟩
theorem MkG.same {H H' : Hp} (s : Same H H') {f : Addr} {v : V} (h : MkG H f v) : MkG H' f v := by
  obtain ⟨c, cc, h1, h2, c', h3, h4⟩ := h
  exact ⟨c, cc, s _ _ h1, s _ _ h2, c', h3, s _ _ h4⟩
theorem sc_Work_paper : FnScope ["self", "papers", "hole", "makes", "one"] ["self"] (defScope s_Work_paper) := ⟨rfl, rfl, rfl, by decide +kernel, rfl, by decide +kernel, by decide +kernel⟩
def sp_paper (K : PySem.W.Frag) : Sp := fun vs H Q _ => ∃ (a : Addr) (g : V) (n : Str) (D : WD) (ts : List T), vs = [.ref a] ∧ W2 K H g ts n a D ∧ ∀ v H', Same H H' → Tm H' (.fn (.name n) (.at_ 0)) v → Q v H'
def rLenW (K : PySem.W.Frag) : List V → Hp → VK → Prop := Kn.rLenO (He.ga K "Work") (sp_Work_len K) C8.E0
theorem call_lenW (B : Bk w K mg) {X : Cx} (h1 : X.prog = P) (h2 : X.w = w) (h3 : X.K = K) (h4 : X.mg = mg) (h5 : X.base = base) (hr : Room 4 X.A) : CallR X (.builtin "len") (rLenW K) := by
  subst h1 h2 h3 h4 h5
  obtain ⟨fd, F⟩ := D_Work_len B
  exact Kn.call_lenO (fn_Work_len B F) (len_at B).1 (len_at B).2 (F.bindsN (fun _ _ _ _ _ _ us hl => match us, hl with | [_], _ => rfl)) C8.pass0 hr
theorem q_lenW {H : Hp} {Q : VK} {a : Addr} {g : V} {D : WD} {S : WS} {xs : List Int} (h1 : Wk K H a g D S) (h2 : xs[0]? = some 0) (h3 : xs.length ≤ 10) (h4 : ∀ i x, xs[i]? = some x → Bene H S.left x (xs[i + 1]?).toList)
    (k : ∀ H', Same H H' → Q (.int ((xs.filter fun x => (valV S.deeds (.inl x)).isNone).length : Nat)) H') : rLenW K [.ref a] H Q := by
  obtain ⟨dx, ha⟩ := h1.at_
  refine ⟨a, dx, _, rfl, ha, a, g, D, S, xs, rfl, h1, h2, h3, h4, fun H' s' => ⟨_, rfl, ?_, k H' s'⟩⟩
  have z := List.length_filter_le (fun x => (valV S.deeds (.inl x)).isNone) xs
  exact Nat.lt_of_le_of_lt (Nat.le_trans z h3) (by decide)
theorem r_ckw {r : List V → List V → Hp → VK → Prop} {t tk : TA} {σ : L2.St} {H : Hp} {Q : VK} (h : t σ H fun vs H1 => tk σ H1 fun zs H2 => r vs zs H2 Q) : tCKw r t tk σ H Q := h
theorem ok_paper (B : Bk w K mg) : C8.Met P w K mg base 5 (He.ga K "Work") "paper" (sp_paper K) [] := by
  obtain ⟨fd, F⟩ := D_Work_paper B
  refine metD (c_Work B) (m_Work_paper B) F sc_Work_paper (fun _ _ _ _ _ _ us hl => match us, hl with | [_], _ => rfl) (fun vs H Q E h => ?_) (fun cdv A outer s H vs Q E hr h => ?_)
  · obtain ⟨a, g, n, D, ts, rfl, _⟩ := h
    rfl
  · obtain ⟨a, g, n, D, ts, rfl, ⟨p, e, dv, L, f, sv, dv2, L2, f2, tv, hW, hp0, he0, hd, hL, hmk, hsv, hd2, hL2, hmk2, htv⟩, kq⟩ := h
    have hW' := hW
    obtain ⟨⟨dx, ha⟩, hgg, hdd, hll, hmm, _⟩ := hW'
    have hdd : H D.d = some (.dK [(.inl 0, dv), (.inl 1, dv2)]) := hdd
    have hll : H D.l = some (.dK [(.inl 0, .ref L), (.inl 1, .ref L2)]) := hll
    have hmm : H D.m = some (.dK [(.inl 0, .ref f), (.inl 1, .ref f2)]) := hmm
    have cG := c_Work B
    have n1 := n_Work_kept_deeds B
    have n2 := n_Work_kept_left B
    have n3 := n_Work_kept_makes B
    have hu := hu_of hr
    refine ⟨_, (pss_cons (ps_if (pt_cmpR op_gt (pe_callB (call_lenW B rfl rfl rfl rfl rfl hr) (by rfl) (b_len B) (by decide +kernel) (pa_cons (pv 0) pa_nil)) pe_int (nomark _)) (pss_one ps_never) pss_nil)
      (pss_cons (ps_set (i := 1) sc_Work_paper.nd rfl (Or.inr rfl) pe_dnewK)
      (pss_cons (ps_for PassesOwn.never rfl (pi_list (pe_callBK (Ks.cr_sortedDR rfl) (by rfl) (b_sorted B) (by decide +kernel) (pa_cons (pe_fld (pv 0) rfl) pa_nil) (pk_cons pe_bl pk_nil))) (pg_name (i := 2) sc_Work_paper.nd rfl (Or.inl rfl)) (pss_cons (ps_set (i := 3) sc_Work_paper.nd rfl (Or.inl rfl) (pe_dget hu (pe_fld (pv 0) rfl) (pv 2) (fun _ _ => rfl)))
      (pss_one (ps_dput hu (pv 1) (pv 2) (Kl.pe_callM (made_ok B) mkAny_lam hr (by decide) (i := 3) rfl (Or.inl rfl) (pa_cons (pe_lc (own := [("one", 4)]) (tt := tYes) rfl sc_Work_paper.nd (pi_list (pe_dget hu (pe_fld (pv 0) rfl) (pv 2) (fun _ _ => rfl))) (blkOk_by (N := ["self", "papers", "hole", "makes", "one"]) (sc := defScope s_Work_paper) (by decide +kernel)) (fun _ _ _ _ _ => (pg_name (i := 4) sc_Work_paper.nd rfl (Or.inl rfl))) (fun _ _ _ _ _ => pts_nil) (fun _ _ _ _ _ => (pe_dget hu (pv 1) (pv 4) (fun _ _ => rfl)))) pa_nil)) rfl))))
      (pss_one (ps_ret (pe_dget hu (pv 1) pe_int (fun _ _ => rfl))))))), ?_⟩
    walk_at "rd"
    refine q_lenW (K := K) (xs := [0, 1]) hW rfl (by decide) (fun i x hx => ?_) (fun H0 s0 => ?_)
    · cases i with
      | zero =>
        cases hx
        exact .inr ⟨L, rfl, hL⟩
      | succ i =>
        cases i with
        | zero =>
          cases hx
          exact .inr ⟨L2, rfl, hL2⟩
        | succ i => cases hx
    rw [show (([0, 1] : List Int).filter fun x => (valV ([(.inl 0, dv), (.inl 1, dv2)] : List (Key × V)) (.inl x)).isNone).length = 0 from rfl]
    have W0_ := hW.same s0
    have W0' := W0_
    obtain ⟨⟨dx0, ha0⟩, _, hdd0, hll0, hmm0, _⟩ := W0'
    have hdd0 : H0 D.d = some (.dK [(.inl 0, dv), (.inl 1, dv2)]) := hdd0
    have hll0 : H0 D.l = some (.dK [(.inl 0, .ref L), (.inl 1, .ref L2)]) := hll0
    have hmm0 : H0 D.m = some (.dK [(.inl 0, .ref f), (.inl 1, .ref f2)]) := hmm0
    walk_at "rd"
    rename_i d nd
    refine r_ckw ?_
    walk_at "rd"
    have hd1 : (upd H0 d (.dK [])) d = some (.dK []) := upd_same
    have sd : Same H0 (upd H0 d (.dK [])) := same_new nd
    refine ⟨D.d, _, [0, 1], rfl, rfl, .inl (sd _ _ hdd0), rfl, (show 2 < 64 by decide), fun ys q h1 h2 nq => ?_⟩
    have ey := perm10 h1 h2
    subst ey
    rw [show ([1, 0] : List Int).map V.int = [.int 1, .int 0] from rfl]
    have hq1 : (upd (upd H0 d (.dK [])) q (.lst [.int 1, .int 0])) q = some (.lst [.int 1, .int 0]) := upd_same
    have s1 : Same H0 (upd (upd H0 d (.dK [])) q (.lst [.int 1, .int 0])) := sd.trans (same_new nq)
    have hd1' := same_new (o := .lst [.int 1, .int 0]) nq _ _ hd1
    generalize upd (upd H0 d (.dK [])) q (.lst [.int 1, .int 0]) = H1 at hq1 s1 hd1' ⊢
    refine ⟨q, rfl, ⟨_, SqL.of hq1⟩, ?_⟩
    have da : d ≠ a := (ne_of_none ha0 nd).symm
    have dd : d ≠ D.d := (ne_of_none hdd0 nd).symm
    have dl : d ≠ D.l := (ne_of_none hll0 nd).symm
    have dm : d ≠ D.m := (ne_of_none hmm0 nd).symm
    have dq : d ≠ q := fun z => by rw [z, hq1] at hd1'; cases hd1'
    have dL : d ≠ L := (ne_of_none (s0 _ _ hL) nd).symm
    have dL2 : d ≠ L2 := (ne_of_none (s0 _ _ hL2) nd).symm
    have S1 : Same H H1 := s0.trans s1
    have stop' : ∀ {G : Hp}, But d H1 G → Same H G := fun {G} b => same_but S1 (by
      cases z : H d with
      | none => rfl
      | some o =>
        rw [s0 _ _ z] at nd
        cases nd) b
    refine for_go 2 (fun i σ H' => But d H1 H' ∧ ∃ s2 s3, σ = [some (.ref a), some (.ref d), s2, s3, none] ∧ ((i = 0 ∧ H' d = some (.dK [])) ∨ (i = 1 ∧ H' d = some (.dK [(.inl 1, tv)])) ∨ (i = 2 ∧ ∃ v, H' d = some (.dK [(.inl 1, tv), (.inl 0, v)]) ∧ Tm H' (.fn (.name n) (.at_ 0)) v))) ⟨fun _ _ _ e => e, none, none, rfl, .inl ⟨rfl, hd1'⟩⟩ (fun i σ H' hi ⟨b, _⟩ => ?_) (fun σ H' ⟨b, _⟩ => ⟨_, SqL.of (b _ _ dq.symm hq1), Nat.le_refl _⟩) (fun i σ x H2 H3 hi hP hy => ?_) (fun σ H' hP => ?_)
    · have hq' := b _ _ dq.symm hq1
      rcases (show i = 0 ∨ i = 1 by omega) with rfl | rfl
      · exact ⟨_, _, SqL.of hq', rfl⟩
      · exact ⟨_, _, SqL.of hq', rfl⟩
    · obtain ⟨b, s2, s3, rfl, hc⟩ := hP
      have hq' := b _ _ dq.symm hq1
      obtain ⟨rfl, ex⟩ := itl_eq hy (SqL.of hq')
      have ha3 := b _ _ da.symm (s1 _ _ ha0)
      have hm3 := b _ _ dm.symm (s1 _ _ hmm0)
      have hl3 := b _ _ dl.symm (s1 _ _ hll0)
      have hL3 := b _ _ dL.symm (s1 _ _ (s0 _ _ hL))
      have hL23 := b _ _ dL2.symm (s1 _ _ (s0 _ _ hL2))
      have SH : Same H H3 := stop' b
      rcases hc with ⟨rfl, hd3⟩ | ⟨rfl, hd3⟩ | ⟨rfl, _⟩
      · cases ex
        walk_at "rd"
        refine r_callM ?_
        walk_at "rd"
        refine ⟨.inr ⟨tv, hmk2.same SH⟩, ?_⟩
        walk_at "rd"
        refine ⟨⟨_, SqL.of hL23⟩, fun Lc hLc => ⟨fun i m H' => i = 0 ∧ H' = upd H3 Lc (.lst []), ⟨0, rfl, rfl⟩, ?_⟩⟩
        rintro i m H4 ⟨rfl, rfl⟩
        have s4 : Same H3 (upd H3 Lc (.lst [])) := same_new hLc
        refine .inl ⟨⟨_, SqL.of (s4 _ _ hL23), Nat.le_refl _⟩, ?_⟩
        walk_at "rd"
        refine ⟨.inr ⟨tv, (hmk2.same SH).same s4⟩, Lc, [], rfl, upd_same, .inr ⟨tv, (hmk2.same SH).same s4, ?_⟩⟩
        have hd4 := s4 _ _ hd3
        walk_at "rd"
        refine ⟨b.trans ((But.of s4).trans but_upd), some (.int 1), some (.ref f2), rfl, .inr (.inl ⟨rfl, ?_⟩)⟩
        rw [upd_same]
        rfl
      · cases ex
        walk_at "rd"
        refine r_callM ?_
        walk_at "rd"
        refine ⟨.inl ⟨sv, hmk.same SH⟩, ?_⟩
        walk_at "rd"
        refine ⟨⟨_, SqL.of hL3⟩, fun Lc hLc => ?_⟩
        have dLc : d ≠ Lc := fun z => by rw [z] at hd3; rw [hd3] at hLc; cases hLc
        have LLc : L ≠ Lc := ne_of_none hL3 hLc
        have s4 : Same H3 (upd H3 Lc (.lst [])) := same_new hLc
        have s5 : Same H3 (upd (upd H3 Lc (.lst [])) Lc (.lst [tv])) := same_but s4 hLc but_upd
        refine ⟨fun i m H' => (i = 0 ∧ m = 1 ∧ H' = upd H3 Lc (.lst [])) ∨ (i = 1 ∧ m = 0 ∧ H' = upd (upd H3 Lc (.lst [])) Lc (.lst [tv])), ⟨1, .inl ⟨rfl, rfl, rfl⟩⟩, ?_⟩
        rintro i m H4 (⟨rfl, rfl, rfl⟩ | ⟨rfl, rfl, rfl⟩)
        · refine .inr ⟨⟨_, _, SqL.of (s4 _ _ hL3), rfl⟩, fun H' => H' = upd (upd H3 Lc (.lst [])) Lc (.lst [tv]), fun H' z => ⟨0, by decide, .inr ⟨rfl, rfl, z⟩⟩, fun y H5 hy2 => ?_⟩
          obtain ⟨rfl, ey⟩ := itl_eq hy2 (SqL.of (s4 _ _ hL3))
          cases ey
          have hd4 := s4 _ _ hd3
          walk_at "rd"
          refine ⟨rfl, ?_⟩
          refine r_yes ?_
          walk_at "rd"
          exact ⟨[], upd_same, (show 0 < sizeLine by decide), rfl⟩
        · refine .inl ⟨⟨_, SqL.of (s5 _ _ hL3), Nat.le_refl _⟩, ?_⟩
          walk_at "rd"
          refine ⟨.inl ⟨sv, (hmk.same SH).same s5⟩, Lc, [tv], rfl, upd_same, .inl ⟨.name n, .name n, sv, tv, [], (hmk.same SH).same s5, hsv.same (SH.trans s5), rfl, fun p7 y7 H7 s7 hp7 hy7 => ?_⟩⟩
          have hd7 := s7 _ _ (s5 _ _ hd3)
          walk_at "rd"
          have bb : But d H1 (upd H7 d (.dK (putK [(.inl 1, tv)] (.inl 0) (.ref p7)))) := b.trans ((But.of (s5.trans s7)).trans but_upd)
          have kt : ∀ c xs, H7 c = some (.tup xs) → (upd H7 d (.dK (putK [(.inl 1, tv)] (.inl 0) (.ref p7)))) c = some (.tup xs) := fun c xs e => by
            rw [upd_ne (fun z => by rw [z, hd7] at e; cases e)]
            exact e
          refine ⟨bb, some (.int 0), some (.ref f), rfl, .inr (.inr ⟨rfl, .ref p7, ?_, ?_⟩)⟩
          · rw [upd_same]
            rfl
          · exact ⟨p7, y7, tv, rfl, kt _ _ hp7, hy7.mono kt, (htv.same (SH.trans (s5.trans s7))).mono kt⟩
      · exact absurd hi (by decide)
    · obtain ⟨b, s2, s3, rfl, hc⟩ := hP
      rcases hc with ⟨z, _⟩ | ⟨z, _⟩ | ⟨_, v, hd3, hv⟩
      · cases z
      · cases z
      · walk_at "rd"
        exact kq v _ (stop' b) hv
end
section
variable {P : Program} {w : World} {K : PySem.W.Frag} {mg : Str → Option Value} {base : Heap}
def rowDat (n : Str) : PyData := .tuple [.str "hold", .str n, (T.kind 0).dat]
def goalDat (ts : List T) (t : T) : PyData := .tuple [.tuple (ts.map T.dat), t.dat]
def goalDatL (ts : List T) (t : T) : PyData := .tuple [.list (ts.map T.dat), t.dat]
theorem RowOk.dp {H : Hp} {n : Str} {v : V} (h : RowOk K H n v) : Dp K H v (rowDat n) := by
  obtain ⟨p, k, rfl, hp, hk, _⟩ := h
  exact .tup (SqT.of hp) (.cons (.str _) (.cons (.str _) (.cons hk.dp .nil)))
theorem TsAll.dp {H : Hp} : ∀ {ts : List T} {vs : List V}, TsAll H ts vs → DpAll K H vs (ts.map T.dat)
  | [], [], _ => .nil
  | _ :: _, _ :: _, h => .cons h.1.dp (TsAll.dp h.2)
  | [], _ :: _, h => h.elim
  | _ :: _, [], h => h.elim
theorem GoalAt.dp {H : Hp} {p : Addr} {ts : List T} {t : T} (h : GoalAt H p ts t) : Dp K H (.ref p) (goalDat ts t) := by
  obtain ⟨q, sv, zs, h1, h2, h3, h4⟩ := h
  exact .tup (SqT.of h1) (.cons (.tup (SqT.of h2) h3.dp) (.cons h4.dp .nil))
def ddDat : Option T → PyData
  | none => .tuple [.str "bring"]
  | some t => .tuple [.str "give", t.dat]
theorem Dd.dp {H : Hp} : ∀ {d : Option T} {v : V}, Dd H d v → Dp K H v (ddDat d)
  | none, _, ⟨p, e, q⟩ => by subst e; exact .tup (SqT.of q) (.cons (.str _) .nil)
  | some _, _, ⟨p, x, e, q, t, _⟩ => by subst e; exact .tup (SqT.of q) (.cons (.str _) (.cons t.dp .nil))
theorem sok : PyData.strOk (Str.ofString "hold") = true ∧ PyData.strOk (Str.ofString "name") = true ∧ PyData.strOk (Str.ofString "kind") = true ∧ PyData.strOk (Str.ofString "all") = true ∧ PyData.strOk (Str.ofString "fun") = true ∧ PyData.strOk (Str.ofString "at") = true ∧ PyData.strOk (Str.ofString "bring") = true ∧ PyData.strOk (Str.ofString "give") = true := by decide +kernel
theorem sh_rows {n : Str} (h : NameOk n) : SeqAt.shaped (.list [rowDat n]) = true := by
  obtain ⟨e1, e2, e3, e4, e5, e6, e7, e8⟩ := sok
  simp [SeqAt.shaped, rowDat, T.dat, PyData.canLay0, PyData.canLayAll0, PyData.depth, PyData.depthAll, e1, e3, strOk_name h]
def Kinds (ts : List T) : Prop := (∀ t ∈ ts, ∃ h, t = .kind h ∧ h < 5) ∧ ts.length ≤ 3
theorem sh_kinds {ts : List T} (h : Kinds ts) : PyData.canLayAll0 (ts.map T.dat) = true ∧ PyData.depthAll (ts.map T.dat) ≤ 2 := by
  obtain ⟨e1, e2, e3, e4, e5, e6, e7, e8⟩ := sok
  obtain ⟨h, hl⟩ := h
  have one : ∀ k : Nat, (T.kind k).dat.canLay0 = true ∧ (T.kind k).dat.depth = 1 := fun k => by simp [T.dat, PyData.canLay0, PyData.canLayAll0, PyData.depth, PyData.depthAll, e3]
  match ts, hl, h with
  | [], _, _ => exact ⟨rfl, by decide⟩
  | [a], _, h =>
    obtain ⟨x, rfl, _⟩ := h a (by simp)
    simp [PyData.canLayAll0, PyData.depthAll, one]
  | [a, b], _, h =>
    obtain ⟨x, rfl, _⟩ := h a (by simp)
    obtain ⟨y, rfl, _⟩ := h b (by simp)
    simp [PyData.canLayAll0, PyData.depthAll, one]
  | [a, b, c], _, h =>
    obtain ⟨x, rfl, _⟩ := h a (by simp)
    obtain ⟨y, rfl, _⟩ := h b (by simp)
    obtain ⟨z, rfl, _⟩ := h c (by simp)
    simp [PyData.canLayAll0, PyData.depthAll, one]
  | _ :: _ :: _ :: _ :: _, hl, _ => simp at hl
theorem sh_all {n : Str} (h : NameOk n) : (T.all (.name n) (.name n)).dat.canLay0 = true ∧ (T.all (.name n) (.name n)).dat.depth ≤ 2 := by
  obtain ⟨e1, e2, e3, e4, e5, e6, e7, e8⟩ := sok
  simp [T.dat, PyData.canLay0, PyData.canLayAll0, PyData.depth, PyData.depthAll, e2, e4, strOk_name h]
theorem sh_goal {n : Str} (h : NameOk n) {ts : List T} (hk : Kinds ts) : SeqAt.shaped (goalDat ts (.all (.name n) (.name n))) = true := by
  have a := sh_kinds hk
  have b := sh_all h
  simp [SeqAt.shaped, goalDat, PyData.canLay0, PyData.canLayAll0, PyData.depth, PyData.depthAll, a.1, b.1]
  omega
theorem sh_goalL {n : Str} (h : NameOk n) {ts : List T} (hk : Kinds ts) : SeqAt.shaped (goalDatL ts (.all (.name n) (.name n))) = true := by
  have a := sh_kinds hk
  have b := sh_all h
  simp [SeqAt.shaped, goalDatL, PyData.canLay0, PyData.canLayAll0, PyData.depth, PyData.depthAll, a.1, b.1]
  omega
theorem sh_fn {n : Str} (h : NameOk n) : SeqAt.shaped (T.fn (.name n) (.at_ 0)).dat = true := by
  obtain ⟨e1, e2, e3, e4, e5, e6, e7, e8⟩ := sok
  simp [SeqAt.shaped, T.dat, PyData.canLay0, PyData.canLayAll0, PyData.depth, PyData.depthAll, e2, e5, e6, strOk_name h]
theorem eqv_sh {d : PyData} (h : SeqAt.shaped d = true) : PyData.eqv d d = true := SeqAt.eqv_refl _ (SeqAt.canLay_of_shaped h)
/-! ### == of grounds -/
theorem sc_Ground_eq : FnScope ["self", "other"] ["self", "other"] (defScope s_Ground_eq) := ⟨rfl, rfl, rfl, by decide +kernel, rfl, by decide +kernel, by decide +kernel⟩
def sp_Ground_eq (K : PySem.W.Frag) : Sp := fun vs H Q _ => ∃ (g r : V) (n : Str), vs = [g, g] ∧ Gr K H (some (n, r)) g ∧ ∀ H', Same H H' → Q (.bl true) H'
theorem fn_Ground_eq (B : Bk w K mg) {fd : FuncData} (F : FunD K "__eq__" "Ground.__eq__" (defArgs s_Ground_eq) (defBody s_Ground_eq) (defScope s_Ground_eq) [] [] (He.ma K (He.ga K "Ground") "__eq__") fd) : FnOk P w K mg base C8.CX0 1 (He.ma K (He.ga K "Ground") "__eq__") fd ["self", "other"] (sp_Ground_eq K) := by
  refine fokD F sc_Ground_eq (fun vs H Q E h => ?_) (fun cdv A outer s H vs Q E hr h => ?_)
  · obtain ⟨g, r, n, rfl, _⟩ := h
    rfl
  · obtain ⟨g, r, n, rfl, hg, kq⟩ := h
    have hg' := hg
    obtain ⟨ga, gdx, l, d, rfl, hga, hl, hd, hrow⟩ := hg'
    have hl : H l = some (.lst [r]) := hl
    have hno : NameOk n := by
      obtain ⟨_, _, _, _, _, z⟩ := hg.row
      exact z
    have cG := c_Ground B
    have n1 := n_Ground_kept_rows B
    refine ⟨_, (pss_one (ps_ret (pe_and (pe_callB (call_isCn (C := He.ga K "Ground") (isC_Ground B)) (by rfl) (b_isinstance B) (by decide +kernel) (pa_cons (pv 1) (pa_cons (pe_glob (v := .ref (He.ga K "Ground")) (by rfl) (g_Ground B) rfl) pa_nil))) (pe_one (pe_cmpR (op_eqD hr.units) (pe_fld (pv 0) rfl) (pe_fld (pv 1) rfl) (nomark _)))))), ?_⟩
    walk_at "rd"
    refine r_eqDv (K := K) (.lst (SqL.of hl) (.cons hg.row.dp .nil)) (.lst (SqL.of hl) (.cons hg.row.dp .nil)) (sh_rows hno) (sh_rows hno) ?_
    rw [eqv_sh (sh_rows hno)]
    exact kq _ (Same.refl _)
theorem cmp_at (B : Bk w K mg) {x : Str} (h : cmpB K x = true) : PySem.W.findIn K (.ref (He.ga K x)) "__eq__" = some (some (.ref (He.ma K (He.ga K x) "__eq__"))) ∧ PySem.W.isFn K (.ref (He.ma K (He.ga K x) "__eq__")) = true ∧ PySem.W.findIn K (.ref (He.ga K x)) "__ne__" = some (some (.builtin "object.__ne__")) := by
  have e := He.ba h
  have e2 := He.ba e.2
  exact ⟨beq_iff_eq.mp e.1, e2.2, beq_iff_eq.mp e2.1⟩
theorem mro_at (B : Bk w K mg) {x : Str} (h : insB K x = true) : PySem.W.mroIn K (He.ga K x) (.type "object") = some true := beq_iff_eq.mp (He.ba (He.ba h).2).1
def rNeG (K : PySem.W.Frag) : R2 := Kn.rNeO (He.ga K "Ground") (sp_Ground_eq K) C8.E0
theorem op_neG (B : Bk w K mg) {X : Cx} (h1 : X.prog = P) (h2 : X.w = w) (h3 : X.K = K) (h4 : X.mg = mg) (h5 : X.base = base) (hr : Room 2 X.A) : OpR X (compareOp .NotEq) (rNeG K) := by
  subst h1 h2 h3 h4 h5
  obtain ⟨fd, F⟩ := D_Ground_eq B
  have c := cmp_at B (He.ba (He.ba (He.ba (He.ba (exO_at B)).2).2).2).1
  exact Kn.op_neO (fn_Ground_eq B F) c.1 c.2.1 c.2.2 (mro_at B (He.ba (He.ba (exO_at B)).2).1) (F.bindsN (fun _ _ _ _ _ _ us hl => match us, hl with | [_, _], _ => rfl)) C8.pass0 hr
theorem q_neG {H : Hp} {Q : VK} {g r : V} {n : Str} (hg : Gr K H (some (n, r)) g) (k : ∀ H', Same H H' → Q (.bl false) H') : rNeG K g g H Q := by
  have hg' := hg
  obtain ⟨ga, gdx, l, d, rfl, hga, _⟩ := hg'
  exact ⟨ga, ga, gdx, gdx, _, _, rfl, rfl, hga, hga, .ref ga, r, n, rfl, hg, fun H' s => ⟨true, rfl, k H' s⟩⟩
end
section
variable {P : Program} {w : World} {K : PySem.W.Frag} {mg : Str → Option Value} {base : Heap}
def fillDat : PyData := .list [.tuple [.int 0, ddDat none, .list [.int 1]], .tuple [.int 1, ddDat (some (.at_ 0)), .list []]]
theorem sh_fill : SeqAt.shaped fillDat = true := by decide +kernel
theorem sh_nil : SeqAt.shaped (.list []) = true := by decide +kernel
theorem sc_Work_eq : FnScope ["self", "other"] ["self", "other"] (defScope s_Work_eq) := ⟨rfl, rfl, rfl, by decide +kernel, rfl, by decide +kernel, by decide +kernel⟩
/-- two works in the same state -/
def Alike (K : PySem.W.Frag) (H : Hp) (g : V) (ts : List T) (n : Str) (a b : Addr) (D D' : WD) : Prop := (W0 K H g ts (.all (.name n) (.name n)) a D ∧ W0 K H g ts (.all (.name n) (.name n)) b D') ∨ (W2 K H g ts n a D ∧ W2 K H g ts n b D')
def sp_Work_eq (K : PySem.W.Frag) : Sp := fun vs H Q _ => ∃ (a b : Addr) (g r : V) (n : Str) (D D' : WD) (ts : List T), vs = [.ref a, .ref b] ∧ Gr K H (some (n, r)) g ∧ Kinds ts ∧ Alike K H g ts n a b D D' ∧ ∀ H', Same H H' → Q (.bl true) H'
/-- what filled() tells as data -/
theorem q_filled {H : Hp} {Q : VK} {E : XK} {a : Addr} {g : V} {D : WD} {ts : List T} {n : Str} {d : PyData} (h : (W0 K H g ts (.all (.name n) (.name n)) a D ∧ d = .list []) ∨ (W2 K H g ts n a D ∧ d = fillDat)) (k : ∀ L H', Same H H' → Dp K H' (.ref L) d → Q (.ref L) H') : sp_filled K (.ref a :: ([] ++ [])) H Q E := by
  rcases h with ⟨⟨p, hW, _⟩, rfl⟩ | ⟨⟨p, e, dv, L, f, sv, dv2, L2, f2, tv, hW, hp0, he0, hd, hL, hmk, hsv, hd2, hL2, hmk2, htv⟩, rfl⟩
  · exact ⟨a, g, D, _, rfl, hW, .inl ⟨rfl, fun L H' s hL => k L H' s (.lst (SqL.of hL) .nil)⟩⟩
  · refine ⟨a, g, D, _, rfl, hW, .inr ⟨dv, dv2, L, L2, [.int 1], [], rfl, rfl, hL, hL2, fun Lx p0 p1 l0 l1 H' s hLx hp0 hl0 hp1 hl1 => k Lx H' s ?_⟩⟩
    refine .lst (SqL.of hLx) (.cons (.tup (SqT.of hp0) (.cons (.int 0) (.cons (hd.same s).dp (.cons (.lst (SqL.of hl0) (.cons (.int 1) .nil)) .nil)))) (.cons (.tup (SqT.of hp1) (.cons (.int 1) (.cons (hd2.same s).dp (.cons (.lst (SqL.of hl1) .nil) .nil)))) .nil))
mutual
theorem Dp.same {H H' : Hp} (s : Same H H') : ∀ {v : V} {d : PyData}, Dp K H v d → Dp K H' v d
  | _, _, .non => .non
  | _, _, .bl b => .bl b
  | _, _, .int i => .int i
  | _, _, .str x => .str x
  | _, _, .lst h t => .lst (Same.seq s h) (DpAll.same s t)
  | _, _, .tup h t => .tup (same_seqT s h) (DpAll.same s t)
theorem DpAll.same {H H' : Hp} (s : Same H H') : ∀ {vs : List V} {ds : List PyData}, DpAll K H vs ds → DpAll K H' vs ds
  | _, _, .nil => .nil
  | _, _, .cons h t => .cons (Dp.same s h) (DpAll.same s t)
end
theorem W0.same {H H' : Hp} (s : Same H H') {g : V} {ts : List T} {t : T} {a : Addr} {D : WD} (h : W0 K H g ts t a D) : W0 K H' g ts t a D := by
  obtain ⟨p, hW, q, sv, zs, h1, h2, h3, h4⟩ := h
  exact ⟨p, hW.same s, q, sv, zs, s _ _ h1, s _ _ h2, h3.same s, h4.same s⟩
theorem GoalAt.same {H H' : Hp} (s : Same H H') {p : Addr} {ts : List T} {t : T} (h : GoalAt H p ts t) : GoalAt H' p ts t := by
  obtain ⟨q, sv, zs, h1, h2, h3, h4⟩ := h
  exact ⟨q, sv, zs, s _ _ h1, s _ _ h2, h3.same s, h4.same s⟩
theorem W2.same {H H' : Hp} (s : Same H H') {g : V} {ts : List T} {n : Str} {a : Addr} {D : WD} (h : W2 K H g ts n a D) : W2 K H' g ts n a D := by
  obtain ⟨p, e, dv, L, f, sv, dv2, L2, f2, tv, hW, hp0, he0, hd, hL, hmk, hsv, hd2, hL2, hmk2, htv⟩ := h
  exact ⟨p, e, dv, L, f, sv, dv2, L2, f2, tv, hW.same s, hp0.same s, he0.same s, hd.same s, s _ _ hL, hmk.same s, hsv.same s, hd2.same s, s _ _ hL2, hmk2.same s, htv.same s⟩
/-- a work's first goal, whatever was done -/
theorem Alike.fst {H : Hp} {g : V} {ts : List T} {n : Str} {a b : Addr} {D D' : WD} (h : Alike K H g ts n a b D D') : ∃ S S' p p', Wk K H a g D S ∧ Wk K H b g D' S' ∧ valV S.goals (.inl 0) = some (.ref p) ∧ valV S'.goals (.inl 0) = some (.ref p') ∧ GoalAt H p ts (.all (.name n) (.name n)) ∧ GoalAt H p' ts (.all (.name n) (.name n)) := by
  rcases h with ⟨⟨p, h1, h2⟩, ⟨p', h3, h4⟩⟩ | ⟨⟨p, e, dv, L, f, sv, dv2, L2, f2, tv, hW, hp0, _⟩, ⟨p', e', dv', L', f', sv', dv2', L2', f2', tv', hW', hp0', _⟩⟩
  · exact ⟨_, _, p, p', h1, h3, rfl, rfl, h2, h4⟩
  · exact ⟨_, _, p, p', hW, hW', rfl, rfl, hp0, hp0'⟩
theorem fn_Work_eq (B : Bk w K mg) {fd : FuncData} (F : FunD K "__eq__" "Work.__eq__" (defArgs s_Work_eq) (defBody s_Work_eq) (defScope s_Work_eq) [] [] (He.ma K (He.ga K "Work") "__eq__") fd) : FnOk P w K mg base C8.CX0 3 (He.ma K (He.ga K "Work") "__eq__") fd ["self", "other"] (sp_Work_eq K) := by
  refine fokD F sc_Work_eq (fun vs H Q E h => ?_) (fun cdv A outer s H vs Q E hr h => ?_)
  · obtain ⟨a, b, g, r, n, D, D', ts, rfl, _⟩ := h
    rfl
  · obtain ⟨a, b, g, r, n, D, D', ts, rfl, hg, hk, hA, kq⟩ := h
    have hno : NameOk n := by
      obtain ⟨_, _, _, _, _, z⟩ := hg.row
      exact z
    obtain ⟨S, S', p, p', hW, hV, v1, v2, gp, gp'⟩ := hA.fst
    have hW' := hW
    have hV' := hV
    obtain ⟨⟨dx, ha⟩, hgg, _, _, _, _⟩ := hW'
    obtain ⟨⟨dx', hb⟩, hgg', _, _, _, _⟩ := hV'
    have cG := c_Work B
    have n1 := n_Work_kept_ground B
    have n2 := n_Work_kept_goals B
    have hu := hu_of hr
    refine ⟨_, (pss_cons (ps_if (PW.pt (pw_or (pt_not (pt_val (pe_callB (call_isCn (C := He.ga K "Work") (isC_Work B)) (by rfl) (b_isinstance B) (by decide +kernel) (pa_cons (pv 1) (pa_cons (pe_glob (v := .ref (He.ga K "Work")) (by rfl) (g_Work B) rfl) pa_nil))))) (pw_or1 (pt_cmpR (op_neG B rfl rfl rfl rfl rfl hr) (C8.pe_mt0 (ok_Work_ground B) hr (by decide) (pv 1)) (pe_fld (pv 0) rfl) (nomark _))))) (pss_one ps_never) pss_nil)
      (pss_one (ps_ret (pe_and (pe_cmpR (op_eqD hr.units) (pe_dget hu (pe_fld (pv 1) rfl) pe_int (fun _ _ => rfl)) (pe_dget hu (pe_fld (pv 0) rfl) pe_int (fun _ _ => rfl)) (nomark _)) (pe_one (pe_cmpR (op_eqD hr.units) (C8.pe_mt0 (ok_filled B) hr (by decide) (pv 1)) (C8.pe_mt0 (ok_filled B) hr (by decide) (pv 0)) (nomark _))))))), ?_⟩
    walk_at "rd"
    refine r_isC hb ?_
    walk_at "rd"
    refine ⟨b, g, D', S', rfl, hV, ?_⟩
    walk_at "rd"
    refine q_neG (K := K) hg (fun H1 s1 => ?_)
    walk_at "rd"
    refine r_eqDv (K := K) (gp'.same s1).dp (gp.same s1).dp (sh_goal hno hk) (sh_goal hno hk) ?_
    rw [eqv_sh (sh_goal hno hk)]
    walk_at "rd"
    obtain ⟨d, hd, da, db⟩ : ∃ d, SeqAt.shaped d = true ∧ ((W0 K H g ts (.all (.name n) (.name n)) a D ∧ d = .list []) ∨ (W2 K H g ts n a D ∧ d = fillDat)) ∧ ((W0 K H g ts (.all (.name n) (.name n)) b D' ∧ d = .list []) ∨ (W2 K H g ts n b D' ∧ d = fillDat)) := by
      rcases hA with ⟨h1, h2⟩ | ⟨h1, h2⟩
      · exact ⟨_, sh_nil, .inl ⟨h1, rfl⟩, .inl ⟨h2, rfl⟩⟩
      · exact ⟨_, sh_fill, .inr ⟨h1, rfl⟩, .inr ⟨h2, rfl⟩⟩
    refine q_filled (K := K) (db.imp (fun z => ⟨z.1.same s1, z.2⟩) (fun z => ⟨z.1.same s1, z.2⟩)) (fun L H2 s2 hL => ?_)
    have s12 := s1.trans s2
    walk_at "rd"
    refine q_filled (K := K) (da.imp (fun z => ⟨z.1.same s12, z.2⟩) (fun z => ⟨z.1.same s12, z.2⟩)) (fun L' H3 s3 hL' => ?_)
    walk_at "rd"
    refine r_eqDv (K := K) (Dp.same s3 hL) hL' hd hd ?_
    rw [eqv_sh hd]
    exact kq _ (s12.trans s3)
def rNeW (K : PySem.W.Frag) : R2 := Kn.rNeO (He.ga K "Work") (sp_Work_eq K) C8.E0
theorem op_neW (B : Bk w K mg) {X : Cx} (h1 : X.prog = P) (h2 : X.w = w) (h3 : X.K = K) (h4 : X.mg = mg) (h5 : X.base = base) (hr : Room 4 X.A) : OpR X (compareOp .NotEq) (rNeW K) := by
  subst h1 h2 h3 h4 h5
  obtain ⟨fd, F⟩ := D_Work_eq B
  have c := cmp_at B (He.ba (He.ba (He.ba (He.ba (He.ba (exO_at B)).2).2).2).2).1
  exact Kn.op_neO (fn_Work_eq B F) c.1 c.2.1 c.2.2 (mro_at B (He.ba (He.ba (He.ba (exO_at B)).2).2).1) (F.bindsN (fun _ _ _ _ _ _ us hl => match us, hl with | [_, _], _ => rfl)) C8.pass0 hr
theorem q_neW {H : Hp} {Q : VK} {g r : V} {n : Str} {a b : Addr} {D D' : WD} {ts : List T} (hg : Gr K H (some (n, r)) g) (hk : Kinds ts) (hA : Alike K H g ts n a b D D') (k : ∀ H', Same H H' → Q (.bl false) H') : rNeW K (.ref a) (.ref b) H Q := by
  obtain ⟨S, S', p, p', hW, hV, _⟩ := hA.fst
  obtain ⟨dx, ha⟩ := hW.at_
  obtain ⟨dx', hb⟩ := hV.at_
  exact ⟨a, b, dx, dx', _, _, rfl, rfl, ha, hb, a, b, g, r, n, D, D', ts, rfl, hg, hk, hA, fun H' s => ⟨true, rfl, k H' s⟩⟩
end
section
variable {P : Program} {w : World} {K : PySem.W.Frag} {mg : Str → Option Value} {base : Heap}
/-! ### the law's own defs -/
theorem r_iM {i j : Int} {C : Int → Int → Prop} {g : Int → Int → V} {H : Hp} {Q : VK} (h : C i j) (k : Q (g i j) H) : rI C g (.int i) (.int j) H Q := ⟨i, j, rfl, rfl, h, k⟩
theorem sc_law_cell : FnScope ["_law_script", "_law_k"] ["_law_script", "_law_k"] (defScope s_law_cell) := ⟨rfl, rfl, rfl, by decide +kernel, rfl, by decide +kernel, by decide +kernel⟩
def sp_cell (K : PySem.W.Frag) : Sp := fun vs H Q _ => ∃ (a : Addr) (ns : List Int) (k : Nat), vs = [.ref a, .int (k : Int)] ∧ SqL K H a (ns.map V.int) ∧ ∀ m : Int, Q (.int m) H
theorem ok_law_cell (B : Bk w K mg) : C8.Cal P w K mg base 1 "_law_cell" (sp_cell K) [] := by
  obtain ⟨fd, F⟩ := D_law_cell B
  refine calD F (g_law_cell B) sc_law_cell (fun _ _ _ _ _ _ us hl => match us, hl with | [_, _], _ => rfl) (fun vs H Q E h => ?_) (fun cdv A outer s H vs Q E hr h => ?_)
  · obtain ⟨a, ns, k, rfl, _⟩ := h
    rfl
  · obtain ⟨a, ns, k, rfl, hS, kq⟩ := h
    refine ⟨_, (pss_cons (ps_if (pt_cmpR op_lt (pv 1) (pe_callB call_lenQ (by rfl) (b_len B) (by decide +kernel) (pa_cons (pv 0) pa_nil)) (nomark _)) (pss_one (ps_ret (pe_ix ix_list (pv 0) (pv 1) (fun _ _ => rfl)))) pss_nil)
      (pss_one (ps_ret (pe_op op_add (pe_op op_mul pe_int (pv 1)) pe_int)))), ?_⟩
    walk_at "rd"
    by_cases hlt : k < ns.length
    · obtain ⟨m, hm⟩ : ∃ m, ns[k]? = some m := ⟨_, List.getElem?_eq_getElem hlt⟩
      have e : decide ((k : Int) < ((ns.map V.int).length : Int)) = true := by
        rw [List.length_map]
        exact decide_eq_true (by omega)
      rw [e]
      walk_at "rd"
      exact r_ixL (K := K) hS (by rw [List.getElem?_map, hm] <;> rfl) (kq m)
    · have e : decide ((k : Int) < ((ns.map V.int).length : Int)) = false := by
        rw [List.length_map]
        exact decide_eq_false (by omega)
      rw [e]
      walk_at "rd"
      refine r_iM (.inl ⟨by decide, by decide⟩) ?_
      walk_at "rd"
      exact kq _
/-- the law's box: what is left of a cell, its rest, how many were taken beyond -/
def Box (H : Hp) (x : Addr) (k : Nat) : Prop := ∃ b0 b1 b2 : Int, H x = some (.lst [.int b0, .int b1, .int b2]) ∧ 0 ≤ b0 ∧ (0 ≤ b1 ∧ b1 < 2147483629) ∧ (0 ≤ b2 ∧ b2 ≤ k)
theorem sc_law_box : FnScope ["_law_cell_here"] ["_law_cell_here"] (defScope s_law_box) := ⟨rfl, rfl, rfl, by decide +kernel, rfl, by decide +kernel, by decide +kernel⟩
def sp_box : Sp := fun vs H Q _ => ∃ m : Int, vs = [.int m] ∧ ∀ x H', Same H H' → Box H' x 0 → H x = none → Q (.ref x) H'
theorem ok_law_box (B : Bk w K mg) : C8.Cal P w K mg base 1 "_law_box" sp_box [] := by
  obtain ⟨fd, F⟩ := D_law_box B
  refine calD F (g_law_box B) sc_law_box (fun _ _ _ _ _ _ us hl => match us, hl with | [_], _ => rfl) (fun vs H Q E h => ?_) (fun cdv A outer s H vs Q E hr h => ?_)
  · obtain ⟨m, rfl, _⟩ := h
    rfl
  · obtain ⟨m, rfl, kq⟩ := h
    refine ⟨_, (pss_one (ps_ret (pe_lst (pa_cons (pe_callB (call_maxI rfl) (by rfl) (b_max B) (by decide +kernel) (pa_cons pe_int (pa_cons (pe_op op_sub (pv 0) (pe_op op_pow pe_int pe_int)) pa_nil))) (pa_cons (pe_op op_mod (pv 0) pe_int) (pa_cons pe_int pa_nil)))))), ?_⟩
    walk_at "rd"
    refine r_iM ⟨by decide, by decide, by decide⟩ ?_
    walk_at "rd"
    refine r_iM (C := fun _ j => 0 < j) (show (0 : Int) < 2147483629 by decide) ?_
    walk_at "rd"
    rename_i x nx
    refine kq x _ (same_new nx) ⟨_, _, 0, upd_same, ?_, ⟨Int.emod_nonneg _ (by decide), Int.emod_lt_of_pos _ (by decide)⟩, Int.le_refl _, Int.le_refl _⟩ nx
    split <;> omega
theorem sc_law_take : FnScope ["_law_box_here", "_law_many", "_law_digit", "_law_number"] ["_law_box_here", "_law_many"] (defScope s_law_take) := ⟨rfl, rfl, rfl, by decide +kernel, rfl, by decide +kernel, by decide +kernel⟩
def sp_take : Sp := fun vs H Q _ => ∃ (x : Addr) (n : Int) (k : Nat), vs = [.ref x, .int n] ∧ Box H x k ∧ k ≤ 100 ∧ 0 < n ∧ n < 1000 ∧ ∀ d H', But x H H' → Box H' x (k + 1) → 0 ≤ d → d < n → Q (.int d) H'
theorem ok_law_take (B : Bk w K mg) : C8.Cal P w K mg base 1 "_law_take" sp_take [] := by
  obtain ⟨fd, F⟩ := D_law_take B
  refine calD F (g_law_take B) sc_law_take (fun _ _ _ _ _ _ us hl => match us, hl with | [_, _], _ => rfl) (fun vs H Q E h => ?_) (fun cdv A outer s H vs Q E hr h => ?_)
  · obtain ⟨x, n, k, rfl, _⟩ := h
    rfl
  · obtain ⟨x, n, k, rfl, ⟨b0, b1, b2, hx, h0, ⟨h1, h2⟩, h3, h4⟩, hk, hn, hn2, kq⟩ := h
    refine ⟨_, (pss_cons (ps_if (pt_cmpR op_gt (pe_ix ix_list (pv 0) pe_int (fun _ _ => rfl)) pe_int (nomark _)) (pss_cons (ps_set (i := 2) sc_law_take.nd rfl (Or.inl rfl) (pe_op op_mod (pe_ix ix_list (pv 0) pe_int (fun _ _ => rfl)) (pv 1)))
      (pss_cons (ps_asg (pe_op op_fdiv (pe_ix ix_list (pv 0) pe_int (fun _ _ => rfl)) (pv 1)) (pg_sub (pv 0) pe_int set_list))
      (pss_one (ps_ret (pv 2))))) pss_nil)
      (pss_cons (ps_asg (pe_op op_add (pe_ix ix_list (pv 0) pe_int (fun _ _ => rfl)) pe_int) (pg_sub (pv 0) pe_int set_list))
      (pss_cons (ps_set (i := 3) sc_law_take.nd rfl (Or.inl rfl) (pe_op op_mod (pe_op op_pow (pe_op op_add (pe_op op_add (pe_ix ix_list (pv 0) pe_int (fun _ _ => rfl)) (pe_op op_mul pe_int (pe_ix ix_list (pv 0) pe_int (fun _ _ => rfl)))) pe_int) pe_int) pe_int))
      (pss_cons (ps_set (i := 3) sc_law_take.nd rfl (Or.inl rfl) (pe_op op_mod (pe_op op_pow (pe_op op_add (pe_op op_fdiv (pv 3) pe_int) (pe_op op_mul pe_int (pe_ix ix_list (pv 0) pe_int (fun _ _ => rfl)))) pe_int) pe_int))
      (pss_one (ps_ret (pe_op op_mod (pe_op op_fdiv (pv 3) pe_int) (pv 1)))))))), ?_⟩
    walk_at "rd"
    by_cases hp : 0 < b0
    · rw [decide_eq_true hp]
      walk_at "rd"
      refine r_iM (C := fun _ j => 0 < j) hn ?_
      walk_at "rd"
      refine r_asg ?_
      walk_at "rd"
      refine r_iM (C := CDiv) ⟨hn, by omega⟩ ?_
      refine ⟨_, rfl, x, _, 0, 0, rfl, rfl, hx, rfl, ?_⟩
      walk_at "rd"
      refine kq _ _ but_upd ⟨b0 / n, b1, b2, upd_same, Int.ediv_nonneg h0 (by omega), ⟨h1, h2⟩, h3, by omega⟩ (Int.emod_nonneg _ (by omega)) (Int.emod_lt_of_pos _ hn)
    · rw [decide_eq_false hp]
      walk_at "rd"
      refine r_asg ?_
      walk_at "rd"
      refine ⟨_, rfl, x, _, 2, 2, rfl, rfl, hx, rfl, ?_⟩
      have hx2 : (upd H x (.lst ([.int b0, .int b1, .int b2].set 2 (.int (b2 + 1))))) x = some (.lst [.int b0, .int b1, .int (b2 + 1)]) := upd_same
      have bb : But x H (upd H x (.lst ([.int b0, .int b1, .int b2].set 2 (.int (b2 + 1))))) := but_upd
      generalize upd H x (.lst ([.int b0, .int b1, .int b2].set 2 (.int (b2 + 1)))) = H2 at hx2 bb ⊢
      walk_at "rd"
      refine r_iM (.inl ⟨by decide, by decide⟩) ?_
      walk_at "rd"
      refine r_iM (C := CPow) ⟨by decide, by decide, by omega⟩ ?_
      walk_at "rd"
      refine r_iM (C := fun _ j => 0 < j) (show (0 : Int) < 2147483647 by decide) ?_
      have m1 := Int.emod_nonneg ((b1 + 130363 * (b2 + 1) + 281) ^ (5 : Int).toNat) (show (2147483647 : Int) ≠ 0 by decide)
      have m2 := Int.emod_lt_of_pos ((b1 + 130363 * (b2 + 1) + 281) ^ (5 : Int).toNat) (show (0 : Int) < 2147483647 by decide)
      generalize ((b1 + 130363 * (b2 + 1) + 281) ^ (5 : Int).toNat) % 2147483647 = m at m1 m2 ⊢
      walk_at "rd"
      refine r_iM (C := CDiv) ⟨by decide, by decide⟩ ?_
      walk_at "rd"
      refine r_iM (.inl ⟨by decide, by decide⟩) ?_
      walk_at "rd"
      refine r_iM (C := CPow) ⟨by decide, by decide, by omega⟩ ?_
      walk_at "rd"
      refine r_iM (C := fun _ j => 0 < j) (show (0 : Int) < 2147483587 by decide) ?_
      walk_at "rd"
      refine r_iM (C := CDiv) ⟨by decide, by decide⟩ ?_
      walk_at "rd"
      refine r_iM (C := fun _ j => 0 < j) hn ?_
      exact kq _ _ bb ⟨b0, b1, b2 + 1, hx2, h0, ⟨h1, h2⟩, by omega, by omega⟩ (Int.emod_nonneg _ (by omega)) (Int.emod_lt_of_pos _ hn)
end
section
variable {P : Program} {w : World} {K : PySem.W.Frag} {mg : Str → Option Value} {base : Heap}
/-! ### works made by names -/
abbrev psW : List Str := ["self", "ground", "saying", "room"]
abbrev FW (K : PySem.W.Frag) (fd : FuncData) : Prop := FunD K "__init__" "Work.__init__" (defArgs s_Work_init) (defBody s_Work_init) (defScope s_Work_init) [V.non] [] (He.ma K (He.ga K "Work") "__init__") fd
def gAll {α : Type} (us _ zs : List α) : List α := us ++ zs
def gRot {α : Type} (us _ zs : List α) : List α := us ++ (zs.drop 1 ++ zs.take 1)
def gRotD {α : Type} (us ds zs : List α) : List α := us ++ ((zs.drop 1 ++ zs.take 1) ++ ds)
theorem kW_gsr {fd : FuncData} (F : FW K fd) : ∃ its : List Value, KBn K fd psW 1 ["ground", "saying", "room"] (fun us ws => gAll us its ws) (fun vs zs => gAll vs [V.non] zs) :=
  F.kbindsD 1 _ gAll (by decide) (fun r1 _ r3 => r1.append r3) (fun T kV doc pm an cdv ct us its ws l1 l2 l3 => match us, l1, its, l2, ws, l3 with
    | [a], _, [i], _, [x, y, z], _ => ⟨_, rfl, rfl⟩)
theorem kW_rgs {fd : FuncData} (F : FW K fd) : ∃ its : List Value, KBn K fd psW 1 ["room", "ground", "saying"] (fun us ws => gRot us its ws) (fun vs zs => gRot vs [V.non] zs) :=
  F.kbindsD 1 _ gRot (by decide) (fun r1 _ r3 => r1.append ((r3.drop 1).append (r3.take 1))) (fun T kV doc pm an cdv ct us its ws l1 l2 l3 => match us, l1, its, l2, ws, l3 with
    | [a], _, [i], _, [x, y, z], _ => ⟨_, rfl, rfl⟩)
theorem kW_rs {fd : FuncData} (F : FW K fd) : ∃ its : List Value, KBn K fd psW 2 ["room", "saying"] (fun us ws => gRot us its ws) (fun vs zs => gRot vs [V.non] zs) :=
  F.kbindsD 2 _ gRot (by decide) (fun r1 _ r3 => r1.append ((r3.drop 1).append (r3.take 1))) (fun T kV doc pm an cdv ct us its ws l1 l2 l3 => match us, l1, its, l2, ws, l3 with
    | [a, b], _, [i], _, [x, y], _ => ⟨_, rfl, rfl⟩)
theorem kW_r {fd : FuncData} (F : FW K fd) : ∃ its : List Value, KBn K fd psW 3 ["room"] (fun us ws => gAll us its ws) (fun vs zs => gAll vs [V.non] zs) :=
  F.kbindsD 3 _ gAll (by decide) (fun r1 _ r3 => r1.append r3) (fun T kV doc pm an cdv ct us its ws l1 l2 l3 => match us, l1, its, l2, ws, l3 with
    | [a, b, c], _, [i], _, [x], _ => ⟨_, rfl, rfl⟩)
theorem kW_sg {fd : FuncData} (F : FW K fd) : ∃ its : List Value, KBn K fd psW 1 ["saying", "ground"] (fun us ws => gRotD us its ws) (fun vs zs => gRotD vs [V.non] zs) :=
  F.kbindsD 1 _ gRotD (by decide) (fun r1 r2 r3 => r1.append (((r3.drop 1).append (r3.take 1)).append r2)) (fun T kV doc pm an cdv ct us its ws l1 l2 l3 => match us, l1, its, l2, ws, l3 with
    | [a], _, [i], _, [x, y], _ => ⟨_, rfl, rfl⟩)
theorem r_mkK {C : Addr} {n m : Nat} {sp : Sp} {gV : List V → List V → List V} {E : XK} {t tk : TA} {σ : L2.St} {H : Hp} {Q : VK} (h : t σ H fun vs H1 => tk σ H1 fun zs H2 => vs.length = n ∧ zs.length = m ∧ ∀ x dx, H2 x = none → H2 dx = none → dx ≠ x →
  sp (gV (.ref x :: vs) zs) (upd (upd H2 dx (.own x)) x (.ins C dx [])) (fun v H3 => v = .non ∧ Q (.ref x) H3) E) : tMakeK C n m sp gV E t tk σ H Q := h
/-! ### the law's box beside what a work needs -/
theorem box_ne {H : Hp} {x l : Addr} {k : Nat} {xs : List V} (b : Box H x k) (h : H l = some (.lst xs)) (n : ∀ b0 b1 b2 : Int, xs ≠ [.int b0, .int b1, .int b2]) : l ≠ x := fun z => by
  obtain ⟨b0, b1, b2, e, _⟩ := b
  rw [z, e] at h
  cases h
  exact n _ _ _ rfl
theorem box_o {H : Hp} {x l : Addr} {k : Nat} {o : HO} (b : Box H x k) (h : H l = some o) (n : ∀ xs, o ≠ .lst xs) : l ≠ x := fun z => by
  obtain ⟨b0, b1, b2, e, _⟩ := b
  rw [z, e] at h
  cases h
  exact n _ rfl
/-- all but the box (and the tables) stays -/
def ButT (x : Addr) (H H' : Hp) : Prop := ∀ b o, b ≠ x → H b = some o → (∀ ps, o ≠ .tbl ps) → H' b = some o
theorem ButT.of {x : Addr} {H H' : Hp} (b : But x H H') : ButT x H H' := fun c o n e _ => b c o n e
theorem ButT.pv {x : Addr} {H H' : Hp} (p : Pv K [x] H H') : ButT x H H' := fun c o n e t => p.e c o (fun z => n (by simpa using z)) e t
section
variable {H H' : Hp} {x : Addr} {k : Nat} (b : Box H x k) (t : ButT x H H')
include b t
theorem box_tup : ∀ c xs, H c = some (.tup xs) → H' c = some (.tup xs) := fun c xs e => t c _ (box_o b e (fun _ => nofun)) e (fun _ => nofun)
theorem box_tm {s : T} {v : V} (h : Tm H s v) : Tm H' s v := h.mono (box_tup b t)
theorem box_gr {o : Option (Str × V)} {v : V} (h : Gr K H o v) : Gr K H' o v := by
  obtain ⟨g, gx, l, d, e, a, h2, h3, r⟩ := h
  refine ⟨g, gx, l, d, e, t _ _ (box_o b a (fun _ => nofun)) a (fun _ => nofun), t _ _ (box_ne b h2 (fun b0 b1 b2 z => ?_)) h2 (fun _ => nofun), t _ _ (box_o b h3 (fun _ => nofun)) h3 (fun _ => nofun), fun q z => ?_⟩
  · have y := rows_le o
    rw [z] at y
    exact absurd y (show ¬ (3 ≤ 1) by decide)
  · obtain ⟨p, k, e1, e2, e3, e4⟩ := r q z
    exact ⟨p, k, e1, box_tup b t _ _ e2, e3.mono (box_tup b t), e4⟩
theorem box_rm {ts : List T} {v : V} (h : RmK false H ts v) : RmK false H' ts v := by
  obtain ⟨l, vs, e, hl, hts, h1, h2⟩ := h
  have hl : H l = some (.lst vs) := hl
  refine ⟨l, vs, e, t _ _ (box_ne b hl (fun b0 b1 b2 z => ?_)) hl (fun _ => nofun), hts.mono (box_tup b t), h1, h2⟩
  subst z
  match ts, hts, h1 with
  | [], hts, _ => exact hts.elim
  | s :: _, hts, h1 =>
    obtain ⟨h, rfl, _⟩ := h1 s (List.mem_cons_self ..)
    obtain ⟨p, e, _⟩ := hts.1
    cases e
end
theorem sc_law_made : FnScope ["_law_box_here", "_law_base", "_law_term", "_law_around", "_law_way"] ["_law_box_here", "_law_base", "_law_term", "_law_around"] (defScope s_law_made) := ⟨rfl, rfl, rfl, by decide +kernel, rfl, by decide +kernel, by decide +kernel⟩
def sp_lmade (K : PySem.W.Frag) : Sp := fun vs H Q _ => ∃ (bx : Addr) (k : Nat) (g tv rm r : V) (n : Str) (ts : List T), vs = [.ref bx, g, tv, rm] ∧ Box H bx k ∧ k ≤ 99 ∧ Gr K H (some (n, r)) g ∧ Tm H (.all (.name n) (.name n)) tv ∧ RmK false H ts rm ∧
  ∀ a D H', But bx H H' → Box H' bx (k + 1) → W0 K H' g ts (.all (.name n) (.name n)) a D → H a = none → (∀ c ∈ D.all, H c = none) → Q (.ref a) H'
theorem q_take {H : Hp} {Q : VK} {E : XK} {x : Addr} {n : Int} {k : Nat} (h1 : Box H x k) (h2 : k ≤ 100) (h3 : 0 < n) (h4 : n < 1000) (kk : ∀ d H', But x H H' → Box H' x (k + 1) → 0 ≤ d → d < n → Q (.int d) H') : sp_take ([.ref x, .int n] ++ []) H Q E := ⟨x, n, k, rfl, h1, h2, h3, h4, kk⟩
theorem ok_law_made (B : Bk w K mg) : C8.Cal P w K mg base 22 "_law_made" (sp_lmade K) [] := by
  obtain ⟨fd, F⟩ := D_law_made B
  obtain ⟨fdW, FWk⟩ := D_Work_init B
  obtain ⟨i1, k1⟩ := kW_gsr FWk
  obtain ⟨i2, k2⟩ := kW_rgs FWk
  obtain ⟨i3, k3⟩ := kW_rs FWk
  obtain ⟨i4, k4⟩ := kW_r FWk
  refine calD F (g_law_made B) sc_law_made (fun _ _ _ _ _ _ us hl => match us, hl with | [_, _, _, _], _ => rfl) (fun vs H Q E h => ?_) (fun cdv A outer s H vs Q E hr h => ?_)
  · obtain ⟨bx, k, g, tv, rm, r, n, ts, rfl, _⟩ := h
    rfl
  · obtain ⟨bx, k, g, tv, rm, r, n, ts, rfl, hb, hk, hg, htv, hrm, kq⟩ := h
    have hno : NameOk n := by
      obtain ⟨_, _, _, _, _, z⟩ := hg.row
      exact z
    refine ⟨_, (pss_cons (ps_set (i := 4) sc_law_made.nd rfl (Or.inl rfl) (C8.pe_c (ok_law_take B) hr (by decide) (by rfl) (pa_cons (pv 0) (pa_cons pe_int pa_nil))))
      (pss_cons (ps_if (pt_cmpR op_eq (pv 4) pe_int (nomark _)) (pss_one (ps_ret (pe_makeK0 (E := C8.E0) (k_Work B) (fn_Work_init B FWk) (hr.mono (by decide)) (by rfl) (g_Work B) k1 C8.pass0 (pk_cons (pv 1) (pk_cons (pv 2) (pk_cons (pv 3) pk_nil)))))) pss_nil)
      (pss_cons (ps_if (pt_cmpR op_eq (pv 4) pe_int (nomark _)) (pss_one (ps_ret (pe_makeK0 (E := C8.E0) (k_Work B) (fn_Work_init B FWk) (hr.mono (by decide)) (by rfl) (g_Work B) k2 C8.pass0 (pk_cons (pv 3) (pk_cons (pv 1) (pk_cons (pv 2) pk_nil)))))) pss_nil)
      (pss_cons (ps_if (pt_cmpR op_eq (pv 4) pe_int (nomark _)) (pss_one (ps_ret (pe_makeK (n := 1) (E := C8.E0) (k_Work B) (fn_Work_init B FWk) (hr.mono (by decide)) (by rfl) (g_Work B) k3 C8.pass0 (pa_cons (pv 1) pa_nil) (pk_cons (pv 3) (pk_cons (pv 2) pk_nil))))) pss_nil)
      (pss_one (ps_ret (pe_makeK (n := 2) (E := C8.E0) (k_Work B) (fn_Work_init B FWk) (hr.mono (by decide)) (by rfl) (g_Work B) k4 C8.pass0 (pa_cons (pv 1) (pa_cons (pv 2) pa_nil)) (pk_cons (pv 3) pk_nil)))))))), ?_⟩
    walk_at "rd"
    refine q_take hb (by omega) (by decide) (by decide) (fun d H1 b1 hb1 hd0 hd1 => ?_)
    have t1 : ButT bx H H1 := ButT.of b1
    have hg1 := box_gr hb t1 hg
    have htv1 := box_tm hb t1 htv
    have hrm1 := box_rm hb t1 hrm
    have fin : ∀ (x dx : Addr), H1 x = none → H1 dx = none → dx ≠ x → sp_Work_init K [.ref x, g, tv, rm] (upd (upd H1 dx (.own x)) x (.ins (He.ga K "Work") dx [])) (fun v H3 => v = .non ∧ Q (.ref x) H3) C8.E0 := by
      refine q_mkWk (R := fun a H3 => Q (.ref a) H3) (h := 0) hg1 htv1 ⟨hno, hno⟩ (show 1 < 2 by decide) ⟨⟨n, r, rfl, rfl, rfl⟩, rfl⟩ (.inr (.inl hrm1)) (fun a D H2 s2 hW ha hD => ?_)
      have up : ∀ c, H1 c = none → H c = none := fun c e => by
        cases z : H c with
        | none => rfl
        | some o =>
          obtain ⟨b0, b1', b2, eb, _⟩ := hb1
          rw [b1 c o (fun y => by rw [y, eb] at e; cases e) z] at e
          cases e
      refine kq a D H2 (b1.trans (But.of s2)) ?_ hW (up a ha) fun c hc => up c (hD c hc)
      obtain ⟨b0, b1', b2, eb, q⟩ := hb1
      exact ⟨b0, b1', b2, s2 _ _ eb, q⟩
    walk_at "rd"
    by_cases h0 : d = 0
    · rw [decide_eq_true h0]
      walk_at "rd"
      refine r_mkK ?_
      walk_at "rd"
      exact ⟨rfl, rfl, fin⟩
    rw [decide_eq_false h0]
    walk_at "rd"
    by_cases h1 : d = 1
    · rw [decide_eq_true h1]
      walk_at "rd"
      refine r_mkK ?_
      walk_at "rd"
      exact ⟨rfl, rfl, fin⟩
    rw [decide_eq_false h1]
    walk_at "rd"
    by_cases h2 : d = 2
    · rw [decide_eq_true h2]
      walk_at "rd"
      refine r_mkK ?_
      walk_at "rd"
      exact ⟨rfl, rfl, fin⟩
    rw [decide_eq_false h2]
    walk_at "rd"
    refine r_mkK ?_
    walk_at "rd"
    exact ⟨rfl, rfl, fin⟩
end
section
variable {P : Program} {w : World} {K : PySem.W.Frag} {mg : Str → Option Value} {base : Heap}
theorem kb_h {x qual : Str} {st : Stmt} {f : Addr} {fd : FuncData} {ps : List Str} (F : FunD K x qual (defArgs st) (defBody st) (defScope st) [] [] f fd) (n : Nat) (ks : List Str)
    (h : ∀ (kV doc pm : Value) (an : Option Addr) (cdv ct : Value) (us ws : List Value), us.length = n → ws.length = ks.length → bindArgs (PySem.W.fnOf x qual (defArgs st) (defBody st) (defScope st) .none kV doc pm an cdv ct) ⟨us, ks.zip ws⟩ = pure (ps.zip (us ++ ws))) :
    KBn K fd ps n ks (fun us ws => us ++ ws) (fun vs zs => vs ++ zs) := Kr.kbn F n ks (fun us ws => us ++ ws) (fun r1 r2 => r1.append r2) h
theorem kb_r {x qual : Str} {st : Stmt} {f : Addr} {fd : FuncData} {ps : List Str} (F : FunD K x qual (defArgs st) (defBody st) (defScope st) [] [] f fd) (n : Nat) (ks : List Str)
    (h : ∀ (kV doc pm : Value) (an : Option Addr) (cdv ct : Value) (us ws : List Value), us.length = n → ws.length = ks.length → bindArgs (PySem.W.fnOf x qual (defArgs st) (defBody st) (defScope st) .none kV doc pm an cdv ct) ⟨us, ks.zip ws⟩ = pure (ps.zip (us ++ ws.reverse))) :
    KBn K fd ps n ks (fun us ws => us ++ ws.reverse) (fun vs zs => vs ++ zs.reverse) := Kr.kbn F n ks (fun us ws => us ++ ws.reverse) (fun r1 r2 => r1.append r2.reverse) h
theorem fn_is_deed (B : Bk w K mg) {fd : FuncData} (F : FunD K "is_deed" "is_deed" (defArgs s_is_deed) (defBody s_is_deed) (defScope s_is_deed) [] [] (He.ga K "is_deed") fd) : FnOk P w K mg base C8.CX0 7 (He.ga K "is_deed") fd ["thing"] sp_is_deed := by
  refine fokD F sc_is_deed (fun vs H Q E h => ?_) (fun cdv A outer s H vs Q E hr h => ?_)
  · obtain ⟨d, x, rfl, _⟩ := h
    rfl
  · obtain ⟨d, v, rfl, hd, kq⟩ := h
    have KD := FORMSd_at (w := w) B
    refine ⟨_, (pss_cons (ps_if (PW.pt (pw_or (pt_not (pt_val (pe_callB call_isi (by rfl) (b_isinstance B) (by decide +kernel) (pa_cons (pv 0) (pa_cons (pe_bltn (v := .ty "tuple") (by rfl) (b_tuple B) (by decide +kernel) rfl) pa_nil))))) (pw_or (pt_cmpR op_eq (pe_callB call_lenQ (by rfl) (b_len B) (by decide +kernel) (pa_cons (pv 0) pa_nil)) pe_int (nomark _)) (pw_or (pt_not (pt_val (pe_callB call_isi (by rfl) (b_isinstance B) (by decide +kernel) (pa_cons (pe_ix ix_tup (pv 0) pe_int (fun _ _ => rfl)) (pa_cons (pe_bltn (v := .ty "str") (by rfl) (b_str B) (by decide +kernel) rfl) pa_nil))))) (pw_or1 (pt_cmpR op_notInD (pe_ix ix_tup (pv 0) pe_int (fun _ _ => rfl)) (pe_glob (v := .ref (He.ga K "FORMS_deeds")) (by rfl) (g_FORMS_deeds B) rfl) (by rfl))))))) (pss_one (ps_ret pe_bl)) pss_nil)
      (pss_cons (ps_set (i := 1) sc_is_deed.nd rfl (Or.inl rfl) (pe_ix ix_kdict (pe_glob (v := .ref (He.ga K "FORMS_deeds")) (by rfl) (g_FORMS_deeds B) rfl) (pe_ix ix_tup (pv 0) pe_int (fun _ _ => rfl)) (fun _ _ => rfl)))
      (pss_one (ps_ret (pe_and (pe_cmpR op_eq (pe_callB call_lenQ (by rfl) (b_len B) (by decide +kernel) (pa_cons (pv 0) pa_nil)) (pe_op op_add (pe_callB call_lenS (by rfl) (b_len B) (by decide +kernel) (pa_cons (pv 1) pa_nil)) pe_int) (nomark _)) (pe_one (pe_callB (cr_all rfl) (by rfl) (b_all B) (by decide +kernel) (pa_cons (pe_lc (own := [("letter", 2), ("part", 3)]) (tt := tYes) rfl sc_is_deed.nd (Rz.pi_zipS (by rfl) (b_zip B) (pa_cons (pv 1) (pa_cons (pe_slice sl_tup (pv 0) (po_some pe_int) po_none) pa_nil))) (blkOk_by (N := ["thing", "form", "letter", "part"]) (sc := defScope s_is_deed) (by decide +kernel)) (fun _ _ _ _ _ => (pg_tup2 (K0 := K) rfl (i := 2) (j := 3) rfl sc_is_deed.nd rfl rfl (Or.inl rfl) (Or.inl rfl) (Or.inr rfl) (Or.inr rfl))) (fun _ _ _ _ _ => pts_nil) (fun _ _ _ _ _ => (C8.pe_c (ok_has_form_deeds B) hr (by decide) (by rfl) (pa_cons (pv 2) (pa_cons (pv 3) pa_nil))))) pa_nil)))))))), ?_⟩
    cases d with
    | none =>
      obtain ⟨p, rfl, hp⟩ := hd
      obtain ⟨u, hN, hu⟩ := FORMSd_val B (q := ("bring", .str "")) (List.mem_of_getElem? (i := 0) rfl)
      have hu : RelV (.str "") u := hu
      have l0 : (Str.ofString "").length = 0 := by decide +kernel
      walk_at "rd"
      rename_i p1 np1
      refine ⟨_, p1, [], rfl, by walk_at "hp", ?_⟩
      refine lc_map (J := Rz.ItzS K (Str.ofString "") p1) 0 (Nat.zero_le _) (fun _ y _ => y = .bl true) (fun _ _ _ _ e _ => e) (fun i H' hi s' => by omega) (fun H' s' => ⟨[], same_seqT s' (SqT.of upd_same), Nat.zero_le _, Nat.le_refl _, .inr rfl⟩) (fun i y H1 H2 R hi s1 hy hR => by omega) (fun L ys H' nl s2 hL hlen hall => ?_)
      walk_at "rd"
      refine r_allT hL hall ?_
      walk_at "rd"
      exact kq _ (by walk_at "sm")
    | some t =>
      obtain ⟨p, x, rfl, hp, ht, ho, hd⟩ := hd
      obtain ⟨u, hN, hu⟩ := FORMSd_val B (q := ("give", .str "t")) (List.mem_of_getElem? (i := 1) rfl)
      have hu : RelV (.str "t") u := hu
      have l0 : (Str.ofString "t").length = 1 := by decide +kernel
      walk_at "rd"
      rename_i p1 np1
      refine ⟨_, p1, [x], rfl, by walk_at "hp", ?_⟩
      have c0 : (Str.ofString "t").cps[0]? = some 116 := by decide +kernel
      have cs : (Str.ofString "t").cps.size = 1 := by decide +kernel
      refine lc_map (J := Rz.ItzS K (Str.ofString "t") p1) 1 (by decide) (fun _ y _ => y = .bl true) (fun _ _ _ _ e _ => e) (fun i H' hi s' => ⟨[x], same_seqT s' (SqT.of upd_same), by rw [cs]; exact hi, hi⟩) (fun H' s' => ⟨[x], same_seqT s' (SqT.of upd_same), by rw [cs]; decide, Nat.le_refl _, .inr rfl⟩) (fun i y H1 H2 R hi s1 hy hR => ?_) (fun L ys H' nl s2 hL hlen hall => ?_)
      · obtain rfl : i = 0 := by omega
        obtain ⟨T1, c, y, rfl, nT, rfl, hc, hyy⟩ := hy
        have hx := hyy [x] (same_seqT s1 (SqT.of upd_same))
        cases hx
        rw [c0] at hc
        cases hc
        walk_at "rd"
        refine ⟨rfl, ?_⟩
        walk_at "rd"
        exact ⟨x, t, rfl, ht.same (by walk_at "sm"), ho, hd, fun H' s' => hR _ _ (by walk_at "sm") rfl⟩
      · walk_at "rd"
        refine r_allT hL hall ?_
        walk_at "rd"
        exact kq _ (by walk_at "sm")
end
section
variable {P : Program} {w : World} {K : PySem.W.Frag} {mg : Str → Option Value} {base : Heap}
theorem r_par {i j : Nat} {ta : TA} {D : Ends} {σ : L2.St} {H : Hp} (h : ta σ H fun vs H1 => ∃ v w, vs = [v, w] ∧ D.nx ((σ.set i (some v)).set j (some w)) H1) : tPar i j ta D σ H := h
theorem r_methN {C : Addr} {m : Str} {n mm : Nat} {sp : Sp} {gV : List V → List V → List V} {E : XK} {ta : TE} {t tk : TA} {σ : L2.St} {H : Hp} {Q : VK} (h : ta σ H fun x H1 => ∃ a dx fs, x = .ref a ∧ H1 a = some (.ins C dx fs) ∧ fs.lookup m = none ∧
  t σ H1 fun vs H2 => tk σ H2 fun zs H3 => vs.length = n ∧ zs.length = mm ∧ sp (gV (x :: vs) zs) H3 Q E) : Kr.tMethN C m n mm sp gV E ta t tk σ H Q := h
theorem r_callN {n m : Nat} {sp : Sp} {gV : List V → List V → List V} {E : XK} {t tk : TA} {σ : L2.St} {H : Hp} {Q : VK} (h : t σ H fun vs H1 => tk σ H1 fun zs H2 => vs.length = n ∧ zs.length = m ∧ sp (gV vs zs) H2 Q E) : tCallN n m sp gV E t tk σ H Q := h
theorem Pv.fresh {zs xs : List Addr} {H H1 H2 : Hp} (a : Pv K zs H H1) (f : ∀ c ∈ xs, H c = none) (b : Pv K xs H1 H2) : Pv K zs H H2 :=
  ⟨fun c o m h n => b.e c o (fun z => by rw [f c z] at h; cases h) (a.e c o m h n) n, fun c h => a.n c (b.n c h), b.t⟩
theorem box_pv {H H' : Hp} {x : Addr} {k j : Nat} (h : Box H x k) (b : But x H H') (h' : Box H' x j) (t : Tbs K H) : Pv K [x] H H' := by
  obtain ⟨b0, b1, b2, e, _⟩ := h
  obtain ⟨c0, c1, c2, e', _⟩ := h'
  have ne : ∀ {c : Addr} {u : HO}, H c = some u → (∀ xs, u ≠ .lst xs) → c ≠ x := fun q n z => by
    rw [z, e] at q
    cases q
    exact n _ rfl
  refine ⟨fun c u m q _ => b c u (fun z => m (by rw [z]; exact List.mem_cons_self ..)) q, fun c q => ?_, fun p hp => ?_⟩
  · by_cases z : c = x
    · rw [z, e'] at q
      cases q
    · cases y : H c with
      | none => rfl
      | some u =>
        rw [b c u z y] at q
        cases q
  · obtain ⟨ps, h1, h2, h3⟩ := t p hp
    refine ⟨ps, b _ _ (ne h1 (fun _ => nofun)) h1, h2, fun pos cv hcv => ?_⟩
    obtain ⟨c1, e1, e2⟩ := h3 pos cv hcv
    exact ⟨c1, e1, b _ _ (ne e2 (fun _ => nofun)) e2⟩
theorem Box.same {H H' : Hp} (s : Same H H') {x : Addr} {k : Nat} (h : Box H x k) : Box H' x k := by
  obtain ⟨b0, b1, b2, e, q⟩ := h
  exact ⟨b0, b1, b2, s _ _ e, q⟩
theorem q_goal0 {H : Hp} {Q : VK} {E : XK} {a : Addr} {g : V} {D : WD} {ts : List T} {t : T} (h : W0 K H g ts t a D) (k : ∀ r H', Same H H' → Dp K H' (.ref r) (goalDatL ts t) → Q (.ref r) H') : sp_Work_goal K [.ref a, .int 0] H Q E := by
  obtain ⟨p, hW, q, sv, zs, h1, h2, h3, h4⟩ := h
  exact ⟨a, p, q, g, sv, zs, D, _, 0, rfl, hW, rfl, rfl, h1, h2, fun r l H' s hr hl => k r H' s (.tup (SqT.of hr) (.cons (.lst (SqL.of hl) (h3.same s).dp) (.cons (h4.same s).dp .nil)))⟩
theorem fresh_disj {H : Hp} {xs ys : List Addr} (h : Ids H xs) (f : ∀ c ∈ ys, H c = none) : ∀ c ∈ xs, c ∉ ys := fun c hc hy => by
  obtain ⟨o, e, _⟩ := h c hc
  rw [f c hy] at e
  cases e
theorem disj_symm {xs ys : List Addr} (h : ∀ c ∈ xs, c ∉ ys) : ∀ c ∈ ys, c ∉ xs := fun c hc hx => h c hx hc
theorem fresh_cons {H : Hp} {a : Addr} {D : WD} (h : H a = none) (hD : ∀ c ∈ D.all, H c = none) : ∀ c ∈ a :: D.all, H c = none := fun c hc => by
  rcases List.mem_cons.mp hc with z | z
  · rw [z]; exact h
  · exact hD c z
theorem fresh_up {zs : List Addr} {H H1 : Hp} (p : Pv K zs H H1) {xs : List Addr} (h : ∀ c ∈ xs, H1 c = none) : ∀ c ∈ xs, H c = none := fun c hc => p.n c (h c hc)
theorem W0.ids {H : Hp} {g : V} {ts : List T} {t : T} {a : Addr} {D : WD} (h : W0 K H g ts t a D) : Ids H (a :: D.all) := by
  obtain ⟨p, hW, _⟩ := h
  exact hW.ids
theorem W1.ids {H : Hp} {g : V} {ts : List T} {n : Str} {a : Addr} {D : WD} (h : W1 K H g ts n a D) : Ids H (a :: D.all) := by
  obtain ⟨p, e, dv, L, f, sv, hW, _⟩ := h
  exact hW.ids
theorem W2.ids {H : Hp} {g : V} {ts : List T} {n : Str} {a : Addr} {D : WD} (h : W2 K H g ts n a D) : Ids H (a :: D.all) := by
  obtain ⟨p, e, dv, L, f, sv, dv2, L2, f2, tv, hW, _⟩ := h
  exact hW.ids
theorem W0.isW {C : Addr} {m : Str} {H : Hp} {g : V} {ts : List T} {t : T} {a : Addr} {D : WD} {R : Prop} (hC : C = He.ga K "Work") (h : W0 K H g ts t a D) (hm : ∀ g D n, (wFs g D n).lookup m = none) (k : R) : ∃ a' dx' fs', V.ref a = .ref a' ∧ H a' = some (.ins C dx' fs') ∧ fs'.lookup m = none ∧ R := by
  obtain ⟨p, hW, _⟩ := h
  exact r_isWk hC hW hm k
theorem W1.isW {C : Addr} {m : Str} {H : Hp} {g : V} {ts : List T} {n : Str} {a : Addr} {D : WD} {R : Prop} (hC : C = He.ga K "Work") (h : W1 K H g ts n a D) (hm : ∀ g D n, (wFs g D n).lookup m = none) (k : R) : ∃ a' dx' fs', V.ref a = .ref a' ∧ H a' = some (.ins C dx' fs') ∧ fs'.lookup m = none ∧ R := by
  obtain ⟨p, e, dv, L, f, sv, hW, _⟩ := h
  exact r_isWk hC hW hm k
theorem W2.isW {C : Addr} {m : Str} {H : Hp} {g : V} {ts : List T} {n : Str} {a : Addr} {D : WD} {R : Prop} (hC : C = He.ga K "Work") (h : W2 K H g ts n a D) (hm : ∀ g D n, (wFs g D n).lookup m = none) (k : R) : ∃ a' dx' fs', V.ref a = .ref a' ∧ H a' = some (.ins C dx' fs') ∧ fs'.lookup m = none ∧ R := by
  obtain ⟨p, e, dv, L, f, sv, dv2, L2, f2, tv, hW, _⟩ := h
  exact r_isWk hC hW hm k
theorem W1.same {H H' : Hp} (s : Same H H') {g : V} {ts : List T} {n : Str} {a : Addr} {D : WD} (h : W1 K H g ts n a D) : W1 K H' g ts n a D := by
  obtain ⟨p, e, dv, L, f, sv, hW, hp0, he0, hd, hL, hmk, hsv⟩ := h
  exact ⟨p, e, dv, L, f, sv, hW.same s, hp0.same s, he0.same s, hd.same s, s _ _ hL, hmk.same s, hsv.same s⟩
theorem sh_one : SeqAt.shaped (.list [.int 1]) = true := by decide +kernel
theorem sh_zero : SeqAt.shaped (.list [.int 0]) = true := by decide +kernel
theorem sh_bring : SeqAt.shaped (ddDat none) = true := by decide +kernel
theorem q_deed1 {H : Hp} {Q : VK} {E : XK} {a : Addr} {g : V} {D : WD} {ts : List T} {n : Str} (h : W1 K H g ts n a D) (k : ∀ v, Dd H none v → Q v H) : sp_Work_deed K [.ref a, .int 0] H Q E := by
  obtain ⟨p, e, dv, L, f, sv, hW, hp0, he0, hd, hL, hmk, hsv⟩ := h
  exact ⟨a, g, _, dv, D, _, 0, rfl, hW, rfl, rfl, k dv hd⟩
theorem q_left1 {H : Hp} {Q : VK} {E : XK} {a : Addr} {g : V} {D : WD} {ts : List T} {n : Str} (h : W1 K H g ts n a D) (k : ∀ l H', Same H H' → H' l = some (.lst [.int 1]) → Q (.ref l) H') : sp_Work_left K [.ref a, .int 0] H Q E := by
  obtain ⟨p, e, dv, L, f, sv, hW, hp0, he0, hd, hL, hmk, hsv⟩ := h
  exact ⟨a, L, g, _, dv, _, D, _, 0, rfl, hW, rfl, rfl, rfl, hL, k⟩
theorem sh_left {n : Str} (h : NameOk n) {ts : List T} (hk : Kinds ts) : SeqAt.shaped (.list [goalDat (ts ++ [.name n]) (.name n)]) = true := by
  have a := sh_kinds hk
  obtain ⟨e1, e2, e3, e4, e5, e6, e7, e8⟩ := sok
  have cn : (T.name n).dat.canLay0 = true ∧ (T.name n).dat.depth = 1 := by simp [T.dat, PyData.canLay0, PyData.canLayAll0, PyData.depth, PyData.depthAll, e2, strOk_name h]
  have l1 : ∀ xs : List PyData, PyData.canLayAll0 (xs ++ [(T.name n).dat]) = PyData.canLayAll0 xs := fun xs => by
    induction xs with
    | nil => simp [PyData.canLayAll0, cn.1]
    | cons x xs ih => simp [PyData.canLayAll0, ih]
  have l2 : ∀ xs : List PyData, PyData.depthAll (xs ++ [(T.name n).dat]) ≤ max (PyData.depthAll xs) 1 := fun xs => by
    induction xs with
    | nil => simp [PyData.depthAll, cn.2]
    | cons x xs ih =>
      simp only [List.cons_append, PyData.depthAll]
      omega
  have b := l2 (ts.map T.dat)
  simp [SeqAt.shaped, goalDat, PyData.canLay0, PyData.canLayAll0, PyData.depth, PyData.depthAll, l1, a.1, cn.1, cn.2]
  omega
end
section
variable {P : Program} {w : World} {K : PySem.W.Frag} {mg : Str → Option Value} {base : Heap}
theorem sc_law_right : FnScope ["_law_box_here", "_law_base", "_law_term", "_law_around", "_law_work", "_law_second", "_law_first", "_law_left", "_law_found", "_law_make", "_law_due"] ["_law_box_here", "_law_base", "_law_term", "_law_around"] (defScope s_law_right) := ⟨rfl, rfl, rfl, by decide +kernel, rfl, by decide +kernel, by decide +kernel⟩
def sp_right (K : PySem.W.Frag) : Sp := fun vs H Q _ => ∃ (bx : Addr) (k : Nat) (g tv rm r : V) (n : Str) (ts : List T), vs = [.ref bx, g, tv, rm] ∧ Box H bx k ∧ k ≤ 99 ∧ Gr K H (some (n, r)) g ∧ Tm H (.all (.name n) (.name n)) tv ∧ RmK false H ts rm ∧ Tbs K H ∧
  ∀ H', Pv K [bx] H H' → Q (.bl true) H'
theorem ok_law_right (B : Bk w K mg) (TB : TBs K mg base) : C8.Cal P w K mg base 24 "_law_right" (sp_right K) [] := by
  obtain ⟨fd, F⟩ := D_law_right B
  obtain ⟨fG, FG⟩ := D_Work_goal B
  obtain ⟨fL, FL⟩ := D_Work_left B
  obtain ⟨fE, FE⟩ := D_Work_deed B
  obtain ⟨fO, FO⟩ := D_Work_do B
  obtain ⟨fU, FU⟩ := D_Work_undo B
  obtain ⟨fP, FP⟩ := D_Work_put_back B
  obtain ⟨fA, FA⟩ := D_done_at B
  obtain ⟨fI, FI⟩ := D_is_deed B
  have kG := kb_h (ps := ["self", "hole"]) FG 1 ["hole"] (fun _ _ _ _ _ _ us ws l1 l2 => match us, l1, ws, l2 with | [_], _, [_], _ => rfl)
  have kL := kb_h (ps := ["self", "hole"]) FL 1 ["hole"] (fun _ _ _ _ _ _ us ws l1 l2 => match us, l1, ws, l2 with | [_], _, [_], _ => rfl)
  have kE := kb_h (ps := ["self", "hole"]) FE 1 ["hole"] (fun _ _ _ _ _ _ us ws l1 l2 => match us, l1, ws, l2 with | [_], _, [_], _ => rfl)
  have kU := kb_h (ps := ["self", "hole"]) FU 1 ["hole"] (fun _ _ _ _ _ _ us ws l1 l2 => match us, l1, ws, l2 with | [_], _, [_], _ => rfl)
  have kP := kb_h (ps := ["self", "other"]) FP 1 ["other"] (fun _ _ _ _ _ _ us ws l1 l2 => match us, l1, ws, l2 with | [_], _, [_], _ => rfl)
  have kI := kb_h (ps := ["thing"]) FI 0 ["thing"] (fun _ _ _ _ _ _ us ws l1 l2 => match us, l1, ws, l2 with | [], _, [_], _ => rfl)
  have kO := kb_r (ps := ["self", "hole", "deed"]) FO 1 ["deed", "hole"] (fun _ _ _ _ _ _ us ws l1 l2 => match us, l1, ws, l2 with | [_], _, [_, _], _ => rfl)
  have kO1 := kb_h (ps := ["self", "hole", "deed"]) FO 2 ["deed"] (fun _ _ _ _ _ _ us ws l1 l2 => match us, l1, ws, l2 with | [_, _], _, [_], _ => rfl)
  have kA := kb_r (ps := ["ground", "room", "saying", "deed"]) FA 0 ["deed", "saying", "room", "ground"] (fun _ _ _ _ _ _ us ws l1 l2 => match us, l1, ws, l2 with | [], _, [_, _, _, _], _ => rfl)
  have cW := c_Work B
  have mG := met_of cW (m_Work_goal B) FG (fn_Work_goal (P := P) (w := w) (base := base) B FG) (fun _ _ _ _ _ _ us hl => match us, hl with | [_, _], _ => rfl)
  have mL := met_of cW (m_Work_left B) FL (fn_Work_left (P := P) (w := w) (base := base) B FL) (fun _ _ _ _ _ _ us hl => match us, hl with | [_, _], _ => rfl)
  have mU := met_of cW (m_Work_undo B) FU (fn_undo (P := P) (w := w) (base := base) B FU) (fun _ _ _ _ _ _ us hl => match us, hl with | [_, _], _ => rfl)
  have mB := met_of cW (m_Work_do B) FO (fn_do_B (P := P) (w := w) (base := base) B TB FO) (fun _ _ _ _ _ _ us hl => match us, hl with | [_, _, _], _ => rfl)
  have mD := met_of cW (m_Work_do B) FO (fn_do_G (P := P) (w := w) (base := base) B TB FO) (fun _ _ _ _ _ _ us hl => match us, hl with | [_, _, _], _ => rfl)
  have cA : C8.Cal P w K mg base 19 "done_at" (sp_done_at K) [] := ⟨_, _, _, [], fn_done_at B TB FA, g_done_at B, FA.kp, FA.bindsN (fun _ _ _ _ _ _ us hl => match us, hl with | [_, _, _, _], _ => rfl), .nil⟩
  refine calD F (g_law_right B) sc_law_right (fun _ _ _ _ _ _ us hl => match us, hl with | [_, _, _, _], _ => rfl) (fun vs H Q E h => ?_) (fun cdv A outer s H vs Q E hr h => ?_)
  · obtain ⟨bx, k, g, tv, rm, r, n, ts, rfl, _⟩ := h
    rfl
  · obtain ⟨bx, k, g, tv, rm, r, n, ts, rfl, hb, hk, hg, htv, hrm, hT, kq⟩ := h
    have hno : NameOk n := by
      obtain ⟨_, _, _, _, _, z⟩ := hg.row
      exact z
    refine ⟨_, (pss_cons (ps_par (i := 4) (j := 5) rfl sc_law_right.nd rfl rfl (by decide) rfl rfl (pa_cons (C8.pe_c (ok_law_made B) hr (by decide) (by rfl) (pa_cons (pv 0) (pa_cons (pv 1) (pa_cons (pv 2) (pa_cons (pv 3) pa_nil))))) (pa_cons (C8.pe_mk (mk_Work B) hr (by decide) (by rfl) (pa_cons (pv 1) (pa_cons (pv 2) (pa_cons (pv 3) pa_nil)))) pa_nil)) (by rfl))
      (pss_cons (ps_set (i := 6) sc_law_right.nd rfl (Or.inl rfl) (C8.pe_mt0 (ok_twin B) hr (by decide) (pv 4)))
      (pss_cons (ps_if (PW.pt (pw_or (pt_cmpR (op_neW B rfl rfl rfl rfl rfl (hr.mono (by decide))) (pv 4) (pv 5) (nomark _)) (pw_or1 (pt_cmpR (op_neD hr.units) (Kr.pe_methN0 (E := C8.E0) (pv 4) cW (m_Work_goal B) (fn_Work_goal B FG) (hr.mono (by decide)) kG C8.pass0 (pk_cons pe_int pk_nil)) (C8.pe_mt mG hr (by decide) (pv 5) (pa_cons pe_int pa_nil)) (nomark _))))) (pss_one ps_never) pss_nil)
      (pss_cons (ps_if (PW.pt (pw_or (pt_cmpR (op_neD hr.units) (Kr.pe_methN0 (E := C8.E0) (pv 4) cW (m_Work_do B) (fn_do_B B TB FO) (hr.mono (by decide)) kO C8.pass0 (pk_cons (pe_tup (pa_cons pe_str pa_nil)) (pk_cons pe_int pk_nil))) (C8.pe_mt mB hr (by decide) (pv 5) (pa_cons pe_int (pa_cons (pe_tup (pa_cons pe_str pa_nil)) pa_nil))) (nomark _)) (pw_or1 (pt_cmpR (op_neD hr.units) (Kr.pe_methN0 (E := C8.E0) (pv 4) cW (m_Work_deed B) (fn_Work_deed B FE) (hr.mono (by decide)) kE C8.pass0 (pk_cons pe_int pk_nil)) (pe_tup (pa_cons pe_str pa_nil)) (nomark _))))) (pss_one ps_never) pss_nil)
      (pss_cons (ps_set (i := 7) sc_law_right.nd rfl (Or.inl rfl) (Kr.pe_methN0 (E := C8.E0) (pv 4) cW (m_Work_left B) (fn_Work_left B FL) (hr.mono (by decide)) kL C8.pass0 (pk_cons pe_int pk_nil)))
      (pss_cons (ps_if (PW.pt (pw_or (pt_cmpR (op_neD hr.units) (Kr.pe_methN (n := 1) (E := C8.E0) (pv 4) cW (m_Work_do B) (fn_do_G B TB FO) (hr.mono (by decide)) kO1 C8.pass0 (pa_cons (pe_ix ix_list (pv 7) pe_int (fun _ _ => rfl)) pa_nil) (pk_cons (pe_tup (pa_cons pe_str (pa_cons (pe_tup (pa_cons pe_str (pa_cons pe_int pa_nil))) pa_nil))) pk_nil)) (C8.pe_mt mD hr (by decide) (pv 5) (pa_cons pe_int (pa_cons (pe_tup (pa_cons pe_str (pa_cons (pe_tup (pa_cons pe_str (pa_cons pe_int pa_nil))) pa_nil))) pa_nil))) (nomark _)) (pw_or1 (pt_cmpR (op_neW B rfl rfl rfl rfl rfl (hr.mono (by decide))) (pv 4) (pv 5) (nomark _))))) (pss_one ps_never) pss_nil)
      (pss_cons (ps_if (PW.pt (pw_or (pt_cmpR (op_neD hr.units) (C8.pe_mt0 (ok_paper B) hr (by decide) (pv 4)) (C8.pe_mt0 (ok_paper B) hr (by decide) (pv 5)) (nomark _)) (pw_or1 (pt_cmpR (op_neD hr.units) (Kr.pe_methN0 (E := C8.E0) (pv 4) cW (m_Work_undo B) (fn_undo B FU) (hr.mono (by decide)) kU C8.pass0 (pk_cons pe_int pk_nil)) (C8.pe_mt mU hr (by decide) (pv 5) (pa_cons pe_int pa_nil)) (nomark _))))) (pss_one ps_never) pss_nil)
      (pss_cons (ps_if (PW.pt (pw_or (pt_cmpR (op_neD hr.units) (Kr.pe_methN0 (E := C8.E0) (pv 4) cW (m_Work_put_back B) (fn_put_back B FP) (hr.mono (by decide)) kP C8.pass0 (pk_cons (pv 6) pk_nil)) (pe_lst (pa_cons pe_int pa_nil)) (nomark _)) (pw_or1 (pt_cmpR (op_neD hr.units) (C8.pe_mt mG hr (by decide) (pv 4) (pa_cons pe_int pa_nil)) (Kr.pe_methN0 (E := C8.E0) (pv 6) cW (m_Work_goal B) (fn_Work_goal B FG) (hr.mono (by decide)) kG C8.pass0 (pk_cons pe_int pk_nil)) (nomark _))))) (pss_one ps_never) pss_nil)
      (pss_cons (ps_asg (Kr.pe_callN0 (E := C8.E0) (fn_done_at B TB FA) (hr.mono (by decide)) (by rfl) (g_done_at B) FA.kp kA C8.pass0 (pk_cons (pe_tup (pa_cons pe_str pa_nil)) (pk_cons (pv 2) (pk_cons (pv 3) (pk_cons (pv 1) pk_nil))))) (pg_tup2 (K0 := K) rfl (i := 8) (j := 9) rfl sc_law_right.nd rfl rfl (Or.inl rfl) (Or.inl rfl) (Or.inl rfl) (Or.inl rfl)))
      (pss_cons (ps_set (i := 10) sc_law_right.nd rfl (Or.inl rfl) (C8.pe_c cA hr (by decide) (by rfl) (pa_cons (pv 1) (pa_cons (pv 3) (pa_cons (pv 2) (pa_cons (pe_tup (pa_cons pe_str pa_nil)) pa_nil))))))
      (pss_one (ps_ret (pe_and (pe_cmpR (op_eqD hr.units) (pv 8) (pe_ix ix_tup (pv 10) pe_int (fun _ _ => rfl)) (nomark _)) (pe_and (pe_cmpR (op_eqD hr.units) (Kl.pe_callM (made_ok B) mkAny_lam hr (by decide) (i := 9) rfl (Or.inl rfl) (pa_cons (pe_lst (pa_cons (pe_tup (pa_cons pe_str (pa_cons pe_int pa_nil))) pa_nil)) pa_nil)) (Kr.pe_callME (pe_ix ix_tup (pv 10) pe_int (fun _ _ => rfl)) (made_ok B) mkAny_lam hr (by decide) (pa_cons (pe_lst (pa_cons (pe_tup (pa_cons pe_str (pa_cons pe_int pa_nil))) pa_nil)) pa_nil)) (nomark _)) (pe_one (Kr.pe_callN0 (E := C8.E0) (fn_is_deed B FI) (hr.mono (by decide)) (by rfl) (g_is_deed B) FI.kp kI C8.pass0 (pk_cons (pe_tup (pa_cons pe_str pa_nil)) pk_nil))))))
      ))))))))))), ?_⟩
    walk_at "rd"
    refine r_par ?_
    walk_at "rd"
    refine ⟨bx, k, g, tv, rm, r, n, ts, rfl, hb, hk, hg, htv, hrm, fun a1 D1 H1 b1 hb1 hW1 ha1 hD1 => ?_⟩
    have t1 : ButT bx H H1 := ButT.of b1
    have hg1 := box_gr hb t1 hg
    have htv1 := box_tm hb t1 htv
    have hrm1 := box_rm hb t1 hrm
    walk_at "rd"
    refine r_make ?_
    walk_at "rd"
    refine q_mkWk (K := K) (h := 0) hg1 htv1 ⟨hno, hno⟩ (show 1 < 2 by decide) ⟨⟨n, r, rfl, rfl, rfl⟩, rfl⟩ (.inr (.inl hrm1)) (fun a2 D2 H2 s2 hW2 ha2 hD2 => ?_)
    walk_at "rd"
    refine ⟨_, _, rfl, ?_⟩
    have hrm0 := hrm
    obtain ⟨_, _, _, _, _, hk1, hk2⟩ := hrm
    have hK : Kinds ts := ⟨hk1, hk2⟩
    have hb2 := hb1.same s2
    have b2 : But bx H H2 := b1.trans (But.of s2)
    have P2 : Pv K [bx] H H2 := box_pv hb b2 hb2 hT
    have f1 : ∀ c ∈ a1 :: D1.all, H c = none := fresh_cons ha1 hD1
    have f2' : ∀ c ∈ a2 :: D2.all, H1 c = none := fresh_cons ha2 hD2
    have f2 : ∀ c ∈ a2 :: D2.all, H c = none := fresh_up (box_pv hb b1 hb1 hT) f2'
    have d12 := fresh_disj hW1.ids f2'
    have d21 := disj_symm d12
    have hW1 := hW1.same s2
    have hg2 := hg1.same s2
    clear hrm1 htv1
    walk_at "rd"
    refine hW1.isW rfl (fun _ _ _ => rfl) ?_
    walk_at "rd"
    refine ⟨a1, g, r, n, D1, ts, _, 0, rfl, hW1, hg2, ⟨hno, hno⟩, (show 1 < 2 by decide), ⟨⟨n, r, rfl, rfl, rfl⟩, rfl⟩, hk1, hk2, fun a3 D3 H3 s3 hW3 ha3 hD3 => ?_⟩
    have P3 := P2.same s3
    have f3' : ∀ c ∈ a3 :: D3.all, H2 c = none := fresh_cons ha3 hD3
    have f3 : ∀ c ∈ a3 :: D3.all, H c = none := fresh_up P2 f3'
    have d13 := fresh_disj hW1.ids f3'
    have d31 := disj_symm d13
    have d23 := fresh_disj hW2.ids f3'
    have d32 := disj_symm d23
    have hW1 := hW1.same s3
    have hW2 := hW2.same s3
    have hg3 := hg2.same s3
    walk_at "rd"
    refine q_neW (K := K) hg3 hK (.inl ⟨hW1, hW2⟩) (fun H4 s4 => ?_)
    have P4 := P3.same s4
    have hW1 := hW1.same s4
    have hW2 := hW2.same s4
    have hW3 := hW3.same s4
    have hg4 := hg3.same s4
    walk_at "rd"
    refine r_methN ?_
    walk_at "rd"
    refine hW1.isW rfl (fun _ _ _ => rfl) ?_
    walk_at "rd"
    refine ⟨rfl, rfl, ?_⟩
    refine q_goal0 (K := K) hW1 (fun r1 H5 s5 hr1 => ?_)
    have P5 := P4.same s5
    have hW1 := hW1.same s5
    have hW2 := hW2.same s5
    have hW3 := hW3.same s5
    have hg5 := hg4.same s5
    walk_at "rd"
    refine hW2.isW rfl (fun _ _ _ => rfl) ?_
    walk_at "rd"
    refine q_goal0 (K := K) hW2 (fun r2 H6 s6 hr2 => ?_)
    have P6 := P5.same s6
    have hW1 := hW1.same s6
    have hW2 := hW2.same s6
    have hW3 := hW3.same s6
    have hg6 := hg5.same s6
    walk_at "rd"
    refine r_neDv (K := K) (Dp.same s6 hr1) hr2 (sh_goalL hno hK) (sh_goalL hno hK) ?_
    rw [eqv_sh (sh_goalL hno hK)]
    walk_at "rd"
    refine r_methN ?_
    walk_at "rd"
    refine hW1.isW rfl (fun _ _ _ => rfl) ?_
    walk_at "rd"
    rename_i dv1 ndv1
    have s7 : Same H6 (upd H6 dv1 (.tup [.str "bring"])) := same_new ndv1
    have hv7 : (upd H6 dv1 (.tup [.str "bring"])) dv1 = some (.tup [.str "bring"]) := upd_same
    generalize upd H6 dv1 (.tup [.str "bring"]) = H7 at s7 hv7 ⊢
    have P7 := P6.same s7
    have hW1 := hW1.same s7
    have hW2 := hW2.same s7
    have hW3 := hW3.same s7
    have hg7 := hg6.same s7
    refine ⟨rfl, rfl, ?_⟩
    refine ⟨a1, g, r, .ref dv1, n, D1, ts, rfl, hW1, hg7, ⟨dv1, rfl, hv7⟩, hk2, P7.t, fun l1 H8 p8 hX1 hl1 => ?_⟩
    have p8 : Pv K (a1 :: D1.all) H7 H8 := p8
    have hX1 : W1 K H8 g ts n a1 D1 := hX1
    have P8 := P7.fresh f1 p8
    have hW2 := hW2.pv p8 hW1.ids d21
    have hW3 := hW3.pv p8 hW1.ids d31
    clear hW1
    walk_at "rd"
    refine hW2.isW rfl (fun _ _ _ => rfl) ?_
    walk_at "rd"
    rename_i dv2 ndv2
    have s9 : Same H8 (upd H8 dv2 (.tup [.str "bring"])) := same_new ndv2
    have hv9 : (upd H8 dv2 (.tup [.str "bring"])) dv2 = some (.tup [.str "bring"]) := upd_same
    generalize upd H8 dv2 (.tup [.str "bring"]) = H9 at s9 hv9 ⊢
    have P9 := P8.same s9
    have hX1 := hX1.same s9
    have hW2 := hW2.same s9
    have hW3 := hW3.same s9
    have hl1 := s9 _ _ hl1
    refine ⟨a2, g, r, .ref dv2, n, D2, ts, rfl, hW2, box_gr hb (ButT.pv P9) hg, ⟨dv2, rfl, hv9⟩, hk2, P9.t, fun l2 H10 p10 hX2 hl2 => ?_⟩
    have p10 : Pv K (a2 :: D2.all) H9 H10 := p10
    have hX2 : W1 K H10 g ts n a2 D2 := hX2
    have P10 := P9.fresh f2 p10
    have hX1 := hX1.pv p10 hW2.ids d12
    have hW3 := hW3.pv p10 hW2.ids d32
    have hl1 := p10.lst hW2.ids _ _ hl1
    clear hW2
    walk_at "rd"
    refine r_methN ?_
    walk_at "rd"
    refine hX1.isW rfl (fun _ _ _ => rfl) ?_
    walk_at "rd"
    refine ⟨rfl, rfl, ?_⟩
    refine q_deed1 (K := K) hX1 (fun dx hdx => ?_)
    walk_at "rd"
    rename_i dv3 ndv3
    have s11 : Same H10 (upd H10 dv3 (.tup [.str "bring"])) := same_new ndv3
    have hv11 : (upd H10 dv3 (.tup [.str "bring"])) dv3 = some (.tup [.str "bring"]) := upd_same
    generalize upd H10 dv3 (.tup [.str "bring"]) = H11 at s11 hv11 ⊢
    have P11 := P10.same s11
    have hX1 := hX1.same s11
    have hX2 := hX2.same s11
    have hW3 := hW3.same s11
    refine r_neDv (K := K) (hdx.same s11).dp (Dd.dp (d := none) ⟨dv3, rfl, hv11⟩) sh_bring sh_bring ?_
    rw [eqv_sh sh_bring]
    walk_at "rd"
    refine r_methN ?_
    walk_at "rd"
    refine hX1.isW rfl (fun _ _ _ => rfl) ?_
    walk_at "rd"
    refine ⟨rfl, rfl, ?_⟩
    refine q_left1 (K := K) hX1 (fun ll H12 s12 hll => ?_)
    have P12 := P11.same s12
    have hX1 := hX1.same s12
    have hX2 := hX2.same s12
    have hW3 := hW3.same s12
    walk_at "rd"
    refine r_methN ?_
    walk_at "rd"
    refine hX1.isW rfl (fun _ _ _ => rfl) ?_
    walk_at "rd"
    rename_i q4 nq4 p4 np4
    have s13 : Same H12 (upd (upd H12 q4 (.tup [.str "at", .int 0])) p4 (.tup [.str "give", .ref q4])) := (same_new nq4).trans (same_new np4)
    have hvq4 : (upd (upd H12 q4 (.tup [.str "at", .int 0])) p4 (.tup [.str "give", .ref q4])) q4 = some (.tup [.str "at", .int 0]) := same_new np4 _ _ upd_same
    have hvp4 : (upd (upd H12 q4 (.tup [.str "at", .int 0])) p4 (.tup [.str "give", .ref q4])) p4 = some (.tup [.str "give", .ref q4]) := upd_same
    generalize upd (upd H12 q4 (.tup [.str "at", .int 0])) p4 (.tup [.str "give", .ref q4]) = H13 at s13 hvq4 hvp4 ⊢
    have P13 := P12.same s13
    have hX1 := hX1.same s13
    have hX2 := hX2.same s13
    have hW3 := hW3.same s13
    refine ⟨rfl, rfl, ?_⟩
    refine ⟨a1, g, r, .ref p4, n, D1, ts, rfl, hX1, box_gr hb (ButT.pv P13) hg, ⟨p4, .ref q4, rfl, hvp4, ⟨q4, rfl, hvq4⟩, trivial, (show 0 < 2 by decide)⟩, hk2, P13.t, fun l3 H14 p14 hY1 hl3 => ?_⟩
    have p14 : Pv K (a1 :: D1.all) H13 H14 := p14
    have hY1 : W2 K H14 g ts n a1 D1 := hY1
    have P14 := P13.fresh f1 p14
    have hX2 := hX2.pv p14 hX1.ids d21
    have hW3 := hW3.pv p14 hX1.ids d31
    clear hX1
    walk_at "rd"
    refine hX2.isW rfl (fun _ _ _ => rfl) ?_
    walk_at "rd"
    rename_i q5 nq5 p5 np5
    have s15 : Same H14 (upd (upd H14 q5 (.tup [.str "at", .int 0])) p5 (.tup [.str "give", .ref q5])) := (same_new nq5).trans (same_new np5)
    have hvq5 : (upd (upd H14 q5 (.tup [.str "at", .int 0])) p5 (.tup [.str "give", .ref q5])) q5 = some (.tup [.str "at", .int 0]) := same_new np5 _ _ upd_same
    have hvp5 : (upd (upd H14 q5 (.tup [.str "at", .int 0])) p5 (.tup [.str "give", .ref q5])) p5 = some (.tup [.str "give", .ref q5]) := upd_same
    generalize upd (upd H14 q5 (.tup [.str "at", .int 0])) p5 (.tup [.str "give", .ref q5]) = H15 at s15 hvq5 hvp5 ⊢
    have P15 := P14.same s15
    have hY1 := hY1.same s15
    have hX2 := hX2.same s15
    have hW3 := hW3.same s15
    have hl3 := s15 _ _ hl3
    refine ⟨a2, g, r, .ref p5, n, D2, ts, rfl, hX2, box_gr hb (ButT.pv P15) hg, ⟨p5, .ref q5, rfl, hvp5, ⟨q5, rfl, hvq5⟩, trivial, (show 0 < 2 by decide)⟩, hk2, P15.t, fun l4 H16 p16 hY2 hl4 => ?_⟩
    have p16 : Pv K (a2 :: D2.all) H15 H16 := p16
    have hY2 : W2 K H16 g ts n a2 D2 := hY2
    have P16 := P15.fresh f2 p16
    have hY1 := hY1.pv p16 hX2.ids d12
    have hW3 := hW3.pv p16 hX2.ids d32
    have hl3 := p16.lst hX2.ids _ _ hl3
    clear hX2
    walk_at "rd"
    refine q_neW (K := K) (box_gr hb (ButT.pv P16) hg) hK (.inr ⟨hY1, hY2⟩) (fun H17 s17 => ?_)
    have P17 := P16.same s17
    have hY1 := hY1.same s17
    have hY2 := hY2.same s17
    have hW3 := hW3.same s17
    walk_at "rd"
    refine hY1.isW rfl (fun _ _ _ => rfl) ?_
    walk_at "rd"
    refine ⟨a1, g, n, D1, ts, rfl, hY1, fun v1 H18 s18 hv1 => ?_⟩
    have P18 := P17.same s18
    have hY1 := hY1.same s18
    have hY2 := hY2.same s18
    have hW3 := hW3.same s18
    walk_at "rd"
    refine hY2.isW rfl (fun _ _ _ => rfl) ?_
    walk_at "rd"
    refine ⟨a2, g, n, D2, ts, rfl, hY2, fun v2 H19 s19 hv2 => ?_⟩
    have P19 := P18.same s19
    have hY1 := hY1.same s19
    have hY2 := hY2.same s19
    have hW3 := hW3.same s19
    walk_at "rd"
    refine r_neDv (K := K) (hv1.same s19).dp hv2.dp (sh_fn hno) (sh_fn hno) ?_
    rw [eqv_sh (sh_fn hno)]
    walk_at "rd"
    refine r_methN ?_
    walk_at "rd"
    refine hY1.isW rfl (fun _ _ _ => rfl) ?_
    walk_at "rd"
    refine ⟨rfl, rfl, ?_⟩
    refine ⟨a1, g, n, D1, ts, rfl, hY1, P19.t, fun l5 H20 p20 hX1 hl5 => ?_⟩
    have p20 : Pv K (a1 :: D1.all) H19 H20 := p20
    have hX1 : W1 K H20 g ts n a1 D1 := hX1
    have P20 := P19.fresh f1 p20
    have hY2 := hY2.pv p20 hY1.ids d21
    have hW3 := hW3.pv p20 hY1.ids d31
    clear hY1
    walk_at "rd"
    refine hY2.isW rfl (fun _ _ _ => rfl) ?_
    walk_at "rd"
    refine ⟨a2, g, n, D2, ts, rfl, hY2, P20.t, fun l6 H21 p21 hX2 hl6 => ?_⟩
    have p21 : Pv K (a2 :: D2.all) H20 H21 := p21
    have hX2 : W1 K H21 g ts n a2 D2 := hX2
    have P21 := P20.fresh f2 p21
    have hX1 := hX1.pv p21 hY2.ids d12
    have hW3 := hW3.pv p21 hY2.ids d32
    have hl5 := p21.lst hY2.ids _ _ hl5
    clear hY2
    walk_at "rd"
    refine r_methN ?_
    walk_at "rd"
    refine hX1.isW rfl (fun _ _ _ => rfl) ?_
    walk_at "rd"
    refine ⟨rfl, rfl, ?_⟩
    have hX1' := hX1
    obtain ⟨_, _, _, _, _, _, hV1, _⟩ := hX1'
    obtain ⟨dx1, hat1⟩ := hV1.at_
    have a13 : a1 ≠ a3 := fun z => d13 a1 (List.mem_cons_self ..) (by rw [z]; exact List.mem_cons_self ..)
    refine q_put_back0 (K := K) a13 hV1 hW3 (fun D4 l7 H22 b22 hZ1 hn4 hl7 => ?_)
    have hZ1' := hZ1
    obtain ⟨_, hV4, _⟩ := hZ1'
    obtain ⟨dx4, hat4⟩ := hV4.at_
    have p22 : Pv K [a1] H21 H22 := but_id b22 hat1 trivial hat4 P21.t
    have i22 : Ids H21 [a1] := fun c hc => by
      rw [List.mem_singleton.mp hc]
      exact ⟨_, hat1, trivial⟩
    have P22 := P21.fresh (fun c hc => by rw [List.mem_singleton.mp hc]; exact f1 a1 (List.mem_cons_self ..)) p22
    have hW3 := hW3.pv p22 i22 (fun c hc z => by rw [List.mem_singleton.mp z] at hc; exact d31 a1 hc (List.mem_cons_self ..))
    clear hX1 hX2 hV1
    walk_at "rd"
    rename_i l8 nl8
    have s23 : Same H22 (upd H22 l8 (.lst [.int 0])) := same_new nl8
    have hl8 : (upd H22 l8 (.lst [.int 0])) l8 = some (.lst [.int 0]) := upd_same
    generalize upd H22 l8 (.lst [.int 0]) = H23 at s23 hl8 ⊢
    have P23 := P22.same s23
    have hZ1 := hZ1.same s23
    have hW3 := hW3.same s23
    refine q_goal0 (K := K) hZ1 (fun r3 H24 s24 hr3 => ?_)
    have P24 := P23.same s24
    have hW3 := hW3.same s24
    walk_at "rd"
    refine r_methN ?_
    walk_at "rd"
    refine hW3.isW rfl (fun _ _ _ => rfl) ?_
    walk_at "rd"
    refine ⟨rfl, rfl, ?_⟩
    refine q_goal0 (K := K) hW3 (fun r4 H25 s25 hr4 => ?_)
    have P25 := P24.same s25
    clear hW3 hZ1
    walk_at "rd"
    refine r_neDv (K := K) (Dp.same s25 hr3) hr4 (sh_goalL hno hK) (sh_goalL hno hK) ?_
    rw [eqv_sh (sh_goalL hno hK)]
    walk_at "rd"
    refine r_asg ?_
    refine r_callN ?_
    walk_at "rd"
    rename_i dv6 ndv6
    have s26 : Same H25 (upd H25 dv6 (.tup [.str "bring"])) := same_new ndv6
    have hv26 : (upd H25 dv6 (.tup [.str "bring"])) dv6 = some (.tup [.str "bring"]) := upd_same
    generalize upd H25 dv6 (.tup [.str "bring"]) = H26 at s26 hv26 ⊢
    have P26 := P25.same s26
    have t26 := ButT.pv P26
    refine ⟨rfl, rfl, ?_⟩
    refine ⟨g, rm, tv, .ref dv6, r, n, ts, rfl, box_gr hb t26 hg, box_rm hb t26 hrm0, box_tm hb t26 htv, ⟨dv6, rfl, hv26⟩, P26.t, fun p1 L1 e1 q1 zs1 bv1 sv1 fn1 H27 k27 hp1 hL1 he1 hq1 hzs1 hbv1 hsv1 hmk1 => ?_⟩
    have k27 : Kp K H26 H27 := k27
    have hmk1 : MkB H27 fn1 sv1 := hmk1
    have P27 : Pv K [bx] H H27 := P26.trans (Pv.kp k27)
    have hd1 : Dp K H27 (.ref L1) (.list [goalDat (ts ++ [.name n]) (.name n)]) := .lst (SqL.of hL1) (.cons (GoalAt.dp ⟨q1, bv1, zs1, he1, hq1, hzs1, hbv1⟩) .nil)
    walk_at "rd"
    rename_i dv7 ndv7
    have s28 : Same H27 (upd H27 dv7 (.tup [.str "bring"])) := same_new ndv7
    have hv28 : (upd H27 dv7 (.tup [.str "bring"])) dv7 = some (.tup [.str "bring"]) := upd_same
    generalize upd H27 dv7 (.tup [.str "bring"]) = H28 at s28 hv28 ⊢
    have P28 := P27.same s28
    have t28 := ButT.pv P28
    refine ⟨g, rm, tv, .ref dv7, r, n, ts, rfl, box_gr hb t28 hg, box_rm hb t28 hrm0, box_tm hb t28 htv, ⟨dv7, rfl, hv28⟩, P28.t, fun p2 L2 e2 q2 zs2 bv2 sv2 fn2 H29 k29 hp2 hL2 he2 hq2 hzs2 hbv2 hsv2 hmk2 => ?_⟩
    have k29 : Kp K H28 H29 := k29
    have hmk2 : MkB H29 fn2 sv2 := hmk2
    have P29 : Pv K [bx] H H29 := P28.trans (Pv.kp k29)
    have i28 : Ids H28 [] := fun _ => nofun
    have z29 : Pv K [] H28 H29 := Pv.kp k29
    have hL1 := z29.lst i28 _ _ (s28 _ _ hL1)
    have hg1 : GoalAt H29 e1 (ts ++ [.name n]) (.name n) := (GoalAt.same s28 ⟨q1, bv1, zs1, he1, hq1, hzs1, hbv1⟩).pv z29 i28
    have hg2 : GoalAt H29 e2 (ts ++ [.name n]) (.name n) := ⟨q2, bv2, zs2, he2, hq2, hzs2, hbv2⟩
    have hmk1 := z29.mkB i28 (hmk1.same s28)
    have hsv1 : Tm H29 (.all (.name n) (.name n)) sv1 := z29.tm i28 (hsv1.same s28)
    have hsv2 : Tm H29 (.all (.name n) (.name n)) sv2 := hsv2
    clear hp1 he1 hq1 hzs1 hbv1 he2 hq2 hzs2 hbv2
    walk_at "rd"
    refine r_eqDv (K := K) (.lst (SqL.of hL1) (.cons hg1.dp .nil)) (.lst (SqL.of hL2) (.cons hg2.dp .nil)) (sh_left hno hK) (sh_left hno hK) ?_
    rw [eqv_sh (sh_left hno hK)]
    walk_at "rd"
    refine r_callM ?_
    walk_at "rd"
    refine ⟨.inl ⟨sv1, hmk1⟩, ?_⟩
    walk_at "rd"
    rename_i q6 nq6 l9 nl9
    have s30 : Same H29 (upd (upd H29 q6 (.tup [.str "at", .int 0])) l9 (.lst [.ref q6])) := (same_new nq6).trans (same_new nl9)
    have hvq6 : (upd (upd H29 q6 (.tup [.str "at", .int 0])) l9 (.lst [.ref q6])) q6 = some (.tup [.str "at", .int 0]) := same_new nl9 _ _ upd_same
    have hvl9 : (upd (upd H29 q6 (.tup [.str "at", .int 0])) l9 (.lst [.ref q6])) l9 = some (.lst [.ref q6]) := upd_same
    generalize upd (upd H29 q6 (.tup [.str "at", .int 0])) l9 (.lst [.ref q6]) = H30 at s30 hvq6 hvl9 ⊢
    refine ⟨.inl ⟨sv1, hmk1.same s30⟩, l9, [.ref q6], rfl, hvl9, .inl ⟨.name n, .name n, sv1, .ref q6, [], hmk1.same s30, hsv1.same s30, rfl, fun p9 y9 H31 s31 hp9 hy9 => ?_⟩⟩
    have hv1 : Tm H31 (.fn (.name n) (.at_ 0)) (.ref p9) := ⟨p9, y9, .ref q6, rfl, hp9, hy9, q6, rfl, s31 _ _ hvq6⟩
    walk_at "rd"
    refine r_callM ?_
    walk_at "rd"
    have s291 := s30.trans s31
    refine ⟨.inl ⟨sv2, hmk2.same s291⟩, ?_⟩
    walk_at "rd"
    rename_i q7 nq7 l10 nl10
    have s32 : Same H31 (upd (upd H31 q7 (.tup [.str "at", .int 0])) l10 (.lst [.ref q7])) := (same_new nq7).trans (same_new nl10)
    have hvq7 : (upd (upd H31 q7 (.tup [.str "at", .int 0])) l10 (.lst [.ref q7])) q7 = some (.tup [.str "at", .int 0]) := same_new nl10 _ _ upd_same
    have hvl10 : (upd (upd H31 q7 (.tup [.str "at", .int 0])) l10 (.lst [.ref q7])) l10 = some (.lst [.ref q7]) := upd_same
    generalize upd (upd H31 q7 (.tup [.str "at", .int 0])) l10 (.lst [.ref q7]) = H32 at s32 hvq7 hvl10 ⊢
    have s292 := s291.trans s32
    refine ⟨.inl ⟨sv2, hmk2.same s292⟩, l10, [.ref q7], rfl, hvl10, .inl ⟨.name n, .name n, sv2, .ref q7, [], hmk2.same s292, hsv2.same s292, rfl, fun p10' y10 H33 s33 hp10 hy10 => ?_⟩⟩
    have hv2 : Tm H33 (.fn (.name n) (.at_ 0)) (.ref p10') := ⟨p10', y10, .ref q7, rfl, hp10, hy10, q7, rfl, s33 _ _ hvq7⟩
    walk_at "rd"
    refine r_eqDv (K := K) (hv1.same (s32.trans s33)).dp hv2.dp (sh_fn hno) (sh_fn hno) ?_
    rw [eqv_sh (sh_fn hno)]
    walk_at "rd"
    refine r_callN ?_
    walk_at "rd"
    rename_i dv8 ndv8
    have s34 : Same H33 (upd H33 dv8 (.tup [.str "bring"])) := same_new ndv8
    have hv34 : (upd H33 dv8 (.tup [.str "bring"])) dv8 = some (.tup [.str "bring"]) := upd_same
    generalize upd H33 dv8 (.tup [.str "bring"]) = H34 at s34 hv34 ⊢
    refine ⟨rfl, rfl, none, .ref dv8, rfl, ⟨dv8, rfl, hv34⟩, fun H35 s35 => ?_⟩
    exact kq H35 (P29.same ((s292.trans s33).trans (s34.trans s35)))
end
section
variable {P : Program} {w : World} {K : PySem.W.Frag} {mg : Str → Option Value} {base : Heap}
/-! ### drawn names -/
theorem joinL_nil : ∀ {ys : List Str}, (∀ y ∈ ys, ∃ c ∈ small, TL.tl y = [c]) → (TL.joinL [] (ys.map TL.tl)).length = ys.length ∧ ∀ c ∈ TL.joinL [] (ys.map TL.tl), c ∈ small
  | [], _ => ⟨rfl, fun _ h => nomatch h⟩
  | [y], h => by
    obtain ⟨c, hc, e⟩ := h y (List.mem_cons_self ..)
    refine ⟨?_, fun d hd => ?_⟩
    · show (TL.tl y).length = 1
      rw [e]
      rfl
    · have hd' : d ∈ TL.tl y := hd
      rw [e] at hd'
      rw [List.mem_singleton.mp hd']
      exact hc
  | y :: z :: r, h => by
    obtain ⟨c, hc, e⟩ := h y (List.mem_cons_self ..)
    obtain ⟨i1, i2⟩ := joinL_nil (ys := z :: r) fun w hw => h w (List.mem_cons_of_mem _ hw)
    have e2 : TL.joinL [] ((y :: z :: r).map TL.tl) = TL.tl y ++ ([] ++ TL.joinL [] ((z :: r).map TL.tl)) := rfl
    rw [e2, e]
    refine ⟨?_, fun d hd => ?_⟩
    · rw [List.length_append, List.nil_append, i1]
      simp
      omega
    · rcases List.mem_append.mp hd with q | q
      · rw [List.mem_singleton.mp q]
        exact hc
      · exact i2 d (by simpa using q)
theorem name_ok {ys : List Str} (h : ∀ y ∈ ys, ∃ c ∈ small, TL.tl y = [c]) (h2 : ys.length ≤ 5) : NameOk (Txt.join (Str.ofString "") ys ++ Str.ofString "x") := by
  obtain ⟨i1, i2⟩ := joinL_nil h
  have e0 : TL.tl (Str.ofString "") = [] := by decide +kernel
  have e1 : TL.tl (Str.ofString "x") = [120] := by decide +kernel
  have e : TL.tl (Txt.join (Str.ofString "") ys ++ Str.ofString "x") = TL.joinL [] (ys.map TL.tl) ++ [120] := by
    rw [TL.tl_append, TL.join_eq, TL.tl_join, e0, e1]
  have ne : ∀ z : Str, (TL.tl z).getLast? ≠ some 120 → (z == (Txt.join (Str.ofString "") ys ++ Str.ofString "x")) = false := fun z hz => beq_eq_false_iff_ne.mpr fun q => hz (by rw [q, e]; simp)
  refine ⟨?_, ?_, ?_, fun c hc => ?_⟩
  · rw [TL.len_tl, e, List.length_append]
    exact Nat.le_add_left _ _
  · rw [TL.len_tl, e, List.length_append, i1]
    show ys.length + 1 ≤ 8
    omega
  · show kept.any (fun y => eqV y (.str (Txt.join (Str.ofString "") ys ++ Str.ofString "x"))) = false
    have k1 := ne "all" (by decide +kernel)
    have k2 := ne "fun" (by decide +kernel)
    have k3 := ne "same" (by decide +kernel)
    have k4 := ne "self" (by decide +kernel)
    have k5 := ne "put" (by decide +kernel)
    simp only [kept, List.any_cons, List.any_nil, eqV, k1, k2, k3, k4, k5, Bool.or_self]
  · have hc' : c ∈ TL.tl (Txt.join (Str.ofString "") ys ++ Str.ofString "x") := hc
    rw [e] at hc'
    rcases List.mem_append.mp hc' with q | q
    · exact i2 c q
    · rw [List.mem_singleton.mp q]
      decide
theorem sum_one {ys : List Str} (h : ∀ y ∈ ys, ∃ c ∈ small, TL.tl y = [c]) : (ys.map (·.length)).sum = ys.length := by
  induction ys with
  | nil => rfl
  | cons y r ih =>
    obtain ⟨c, _, e⟩ := h y (List.mem_cons_self ..)
    have l1 : y.length = 1 := by rw [TL.len_tl, e]; rfl
    rw [List.map_cons, List.sum_cons, ih fun z hz => h z (List.mem_cons_of_mem _ hz), l1, List.length_cons]
    omega
theorem small_at {d : Nat} (h : d < 26) : ∃ c ∈ small, (Str.ofString "abcdefghijklmnopqrstuvwxyz").cps.toList[d]? = some c := by
  have e : (Str.ofString "abcdefghijklmnopqrstuvwxyz").cps.toList = small := by decide +kernel
  rw [e]
  obtain ⟨c, hc⟩ : ∃ c, small[d]? = some c := ⟨_, List.getElem?_eq_getElem (by exact h)⟩
  exact ⟨c, List.mem_of_getElem? hc, hc⟩
end
section
variable {P : Program} {w : World} {K : PySem.W.Frag} {mg : Str → Option Value} {base : Heap}
def rMin2 : List V → Hp → VK → Prop := fun xs H Q => ∃ i j : Int, xs = [V.int i, V.int j] ∧ Q (.int (if j < i then j else i)) H
theorem call_minI {X : Cx} (hc : X.calm = true) : CallR X (.builtin "min") rMin2 := call_min2 hc
theorem r_min {i j : Int} {H : Hp} {Q : VK} (h : Q (.int (if j < i then j else i)) H) : rMin2 [.int i, .int j] H Q := ⟨i, j, rfl, h⟩
theorem r_rng1 {ta : TA} {σ : L2.St} {H : Hp} {R : It → Hp → Prop} (h : ta σ H fun vs H1 => ∃ j : Int, vs = [.int j] ∧ -(2 ^ 62) ≤ j ∧ j < 2 ^ 62 ∧ R (Itr 0 j.toNat) H1) : iRng1 ta σ H R := h
theorem r_m1 {r : V → List V → Hp → VK → Prop} {to te : TE} {σ : L2.St} {H : Hp} {Q : VK} (h : to σ H fun x H1 => (∃ a, x = .str a) ∧ te σ H1 fun y H2 => r x [y] H2 Q) : tM1 r to te σ H Q := h
theorem sq_pv {H H' : Hp} (p : Pv K [] H H') {a : Addr} {xs : List V} (h : SqL K H a xs) : SqL K H' a xs := by
  rcases h with (h | ⟨o, h⟩) | h
  · exact .inl (.inl (p.e _ _ (fun z => nomatch z) h (fun _ => nofun)))
  · exact .inl (.inr ⟨o, p.e _ _ (fun z => nomatch z) h (fun _ => nofun)⟩)
  · exact .inr h
theorem sc_law : FnScope ["_law_script", "_law_k", "_law_box_here", "_law_letters", "_law_name", "_law_base", "_law_around", "_law_turn"] ["_law_script"] (defScope s_law) := ⟨rfl, rfl, rfl, by decide +kernel, rfl, by decide +kernel, by decide +kernel⟩
def sp_law (K : PySem.W.Frag) : Sp := fun vs H Q _ => ∃ (a : Addr) (ns : List Int), vs = [.ref a] ∧ SqL K H a (ns.map V.int) ∧ Tbs K H ∧ ∀ H', Q (.bl true) H'
abbrev NL : List Str := ["_law_script", "_law_k", "_law_box_here", "_law_letters", "_law_name", "_law_base", "_law_around", "_law_turn"]
theorem fn_law (B : Bk w K mg) (TB : TBs K mg base) {fd : FuncData} (F : FunD K "law" "law" (defArgs s_law) (defBody s_law) (defScope s_law) [] [] (He.ga K "law") fd) : FnOk P w K mg base C8.CX0 25 (He.ga K "law") fd ["_law_script"] (sp_law K) := by
  obtain ⟨fdW, FWk⟩ := D_Work_init B
  obtain ⟨i5, k5⟩ := kW_sg FWk
  refine fokD F sc_law (fun vs H Q E h => ?_) (fun cdv A outer s H vs Q E hr h => ?_)
  · obtain ⟨a, ns, rfl, _⟩ := h
    rfl
  · obtain ⟨a, ns, rfl, hS, hT, kq⟩ := h
    refine ⟨_, (pss_cons (ps_for PassesOwn.never rfl (pi_range1 (by rfl) (b_range B) (pa_cons (pe_callB (call_maxI rfl) (by rfl) (b_max B) (by decide +kernel) (pa_cons pe_int (pa_cons (pe_callB (call_minI rfl) (by rfl) (b_min B) (by decide +kernel) (pa_cons pe_int (pa_cons (pe_callB call_lenQ (by rfl) (b_len B) (by decide +kernel) (pa_cons (pv 0) pa_nil)) pa_nil))) pa_nil))) pa_nil)) (pg_name (i := 1) sc_law.nd rfl (Or.inl rfl))
        (pss_cons (ps_set (i := 2) sc_law.nd rfl (Or.inr rfl) (C8.pe_c (ok_law_box B) hr (by decide) (by rfl) (pa_cons (C8.pe_c (ok_law_cell B) hr (by decide) (by rfl) (pa_cons (pv 0) (pa_cons (pv 1) pa_nil))) pa_nil)))
        (pss_cons (ps_set (i := 3) sc_law.nd rfl (Or.inr rfl) pe_str)
        (pss_cons (ps_set (i := 4) sc_law.nd rfl (Or.inl rfl) (pe_op op_add_str (pe_join pe_str (pe_lc (own := [("_law_turn", 7)]) (tt := tYes) rfl sc_law.nd (pi_range1 (by rfl) (b_range B) (pa_cons (pe_op op_add pe_int (C8.pe_c (ok_law_take B) hr (by decide) (by rfl) (pa_cons (pv 2) (pa_cons pe_int pa_nil)))) pa_nil)) (blkOk_by (N := NL) (sc := defScope s_law) (by decide +kernel)) (fun _ _ _ _ _ => (pg_name (i := 7) sc_law.nd rfl (Or.inl rfl))) (fun _ _ _ _ _ => pts_nil) (fun _ _ _ _ _ => (pe_ix ix_str (pv 3) (C8.pe_c (ok_law_take B) hr (by decide) (by rfl) (pa_cons (pv 2) (pa_cons pe_int pa_nil))) (fun _ _ => rfl))))) pe_str))
        (pss_cons (ps_set (i := 5) sc_law.nd rfl (Or.inl rfl) (C8.pe_mk (mk_Ground B) hr (by decide) (by rfl) (pa_cons (pe_lst (pa_cons (pe_tup (pa_cons pe_str (pa_cons (pv 4) (pa_cons (pe_tup (pa_cons pe_str (pa_cons pe_int pa_nil))) pa_nil)))) pa_nil)) pa_nil)))
        (pss_cons (ps_setLc (i := 6) (own := [("_law_turn", 7)]) (g := gName 7) (tt := tYes) rfl sc_law.nd rfl rfl (sw_true rfl rfl rfl (by decide +kernel)) (pi_range1 (by rfl) (b_range B) (pa_cons (C8.pe_c (ok_law_take B) hr (by decide) (by rfl) (pa_cons (pv 2) (pa_cons pe_int pa_nil))) pa_nil)) (blkOk_by (N := NL) (sc := defScope s_law) (by decide +kernel)) (fun _ _ _ _ _ => (pg_name (i := 7) sc_law.nd rfl (Or.inl rfl))) (fun _ _ _ _ _ => pts_nil) (fun _ _ _ _ _ => (pe_tup (pa_cons pe_str (pa_cons (C8.pe_c (ok_law_take B) hr (by decide) (by rfl) (pa_cons (pv 2) (pa_cons pe_int pa_nil))) pa_nil)))))
        (pss_cons (ps_if (pt_not (pt_val (C8.pe_c (ok_law_right B TB) hr (by decide) (by rfl) (pa_cons (pv 2) (pa_cons (pv 5) (pa_cons (pe_tup (pa_cons pe_str (pa_cons (pe_tup (pa_cons pe_str (pa_cons (pv 4) pa_nil))) (pa_cons (pe_tup (pa_cons pe_str (pa_cons (pv 4) pa_nil))) pa_nil)))) (pa_cons (pv 6) pa_nil))))))) (pss_one ps_never) pss_nil)
        (pss_one (ps_if (pt_cmpR op_ne (pe_callB (call_lenW B rfl rfl rfl rfl rfl (hr.mono (by decide))) (by rfl) (b_len B) (by decide +kernel) (pa_cons (pe_makeK0 (E := C8.E0) (k_Work B) (fn_Work_init B FWk) (hr.mono (by decide)) (by rfl) (g_Work B) k5 C8.pass0 (pk_cons (pe_tup (pa_cons pe_str (pa_cons pe_int pa_nil))) (pk_cons (pv 5) pk_nil))) pa_nil)) pe_int (nomark _)) (pss_one ps_never) pss_nil)))))))))
      (pss_one (ps_ret pe_bl))), ?_⟩
    walk_at "rd"
    refine r_rng1 ?_
    walk_at "rd"
    refine r_min ?_
    walk_at "rd"
    generalize hj : (if (if ((ns.map V.int).length : Int) < 6 then ((ns.map V.int).length : Int) else 6) > 2 then (if ((ns.map V.int).length : Int) < 6 then ((ns.map V.int).length : Int) else 6) else 2) = j
    have hj1 : 2 ≤ j ∧ j ≤ 6 := by
      subst hj
      split <;> split <;> omega
    refine ⟨by omega, by omega, ?_⟩
    refine for_go j.toNat (fun i σ H' => Pv K [] H H' ∧ ∃ v1 v2 v3 v4 v5 v6, σ = [some (.ref a), v1, v2, v3, v4, v5, v6, none]) ⟨Pv.of (Same.refl _) hT, none, none, none, none, none, none, rfl⟩ (fun i σ H' hi _ => hi) (fun σ H' _ => Nat.le_refl _) (fun i σ x H2 H3 hi hP hy => ?_) (fun σ H' hP => ?_)
    · obtain ⟨P2, v1, v2, v3, v4, v5, v6, rfl⟩ := hP
      obtain ⟨rfl, rfl⟩ := hy
      have hS3 := sq_pv P2 hS
      walk_at "rd"
      refine ⟨a, ns, i, by simp, hS3, fun m => ?_⟩
      walk_at "rd"
      refine ⟨m, rfl, fun bx H4 s4 hb4 hbn => ?_⟩
      have P4 := P2.same s4
      have Z4 : Pv K [bx] H4 H4 := Pv.of (Same.refl _) P4.t
      walk_at "rd"
      refine r_m1 ?_
      walk_at "rd"
      refine ⟨⟨_, rfl⟩, ?_⟩
      walk_at "rd"
      refine r_rng1 ?_
      walk_at "rd"
      refine q_take hb4 (by decide) (by decide) (by decide) (fun d5 H5 b5 hb5 hd50 hd51 => ?_)
      have P5 : Pv K [bx] H4 H5 := box_pv hb4 b5 hb5 P4.t
      walk_at "rd"
      refine ⟨by omega, by omega, ?_⟩
      intro L hL
      have Lbx : L ≠ bx := fun z => by
        obtain ⟨b0, b1, b2, e, _⟩ := hb5
        rw [z, e] at hL
        cases hL
      refine ⟨fun i m H' => But bx H5 H' ∧ Box H' bx (1 + i) ∧ i + m = (1 + d5).toNat ∧ ∃ ys : List Str, H' L = some (.lst (ys.map V.str)) ∧ ys.length = i ∧ ∀ y ∈ ys, ∃ c ∈ small, TL.tl y = [c], ⟨(1 + d5).toNat, (But.of (same_new hL)), ?_, by omega, [], upd_same, rfl, fun _ z => nomatch z⟩, ?_⟩
      · obtain ⟨b0, b1, b2, e, q⟩ := hb5
        exact ⟨b0, b1, b2, by rw [upd_ne Lbx.symm]; exact e, q⟩
      rintro i' m' H6 ⟨b6, hb6, him, ys, hys, hyl, hya⟩
      cases m' with
      | succ m' =>
        refine .inr ⟨(show i' < (1 + d5).toNat by omega), fun H' => But bx H5 H' ∧ Box H' bx (1 + (i' + 1)) ∧ (i' + 1) + m' = (1 + d5).toNat ∧ ∃ ys : List Str, H' L = some (.lst (ys.map V.str)) ∧ ys.length = i' + 1 ∧ ∀ y ∈ ys, ∃ c ∈ small, TL.tl y = [c], fun H' z => ⟨m', by omega, z⟩, fun x H7 hx => ?_⟩
        obtain ⟨rfl, rfl⟩ := hx
        walk_at "rd"
        refine ⟨rfl, ?_⟩
        refine r_yes ?_
        walk_at "rd"
        refine q_take hb6 (by omega) (by decide) (by decide) (fun d8 H8 b8 hb8 hd80 hd81 => ?_)
        obtain ⟨c, hc, ec⟩ := small_at (d := d8.toNat) (by omega)
        refine ⟨_, _, c, rfl, rfl, (by decide +kernel), ?_, ?_⟩
        · have z : d8 = ((d8.toNat : Nat) : Int) := by omega
          rw [z]
          exact atI_nat ec
        have hya2 : ∀ y ∈ ys ++ [(⟨#[c]⟩ : Str)], ∃ c ∈ small, TL.tl y = [c] := fun y hy => by
          rcases List.mem_append.mp hy with q | q
          · exact hya y q
          · rw [List.mem_singleton.mp q]
            exact ⟨c, hc, rfl⟩
        refine ⟨_, b8 _ _ Lbx hys, ?_, fun c' o n e => ?_, ?_, by omega, ys ++ [⟨#[c]⟩], ?_, by rw [List.length_append, hyl]; rfl, hya2⟩
        · rw [List.length_map, hyl]
          exact Nat.lt_of_le_of_lt (show i' ≤ 1000 by omega) (by decide)
        · rw [upd_ne (ne_of_none e hL)]
          exact b8 _ _ n (b6 _ _ n e)
        · obtain ⟨b0, b1, b2, e, q⟩ := hb8
          exact ⟨b0, b1, b2, by rw [upd_ne Lbx.symm]; exact e, q⟩
        · rw [upd_same, List.map_append]
          rfl
      | zero =>
        refine .inl ⟨(show (1 + d5).toNat ≤ i' by omega), ?_⟩
        have hyl5 : ys.length ≤ 5 := by omega
        have P6 : Pv K [bx] H4 H6 := P5.trans (box_pv hb5 b6 hb6 P5.t)
        have hno := name_ok hya hyl5
        refine ⟨_, L, ys, rfl, rfl, .inl (SqL.of hys), ?_, ?_⟩
        · rw [sum_one hya]
          have e0 : (Str.ofString "").length = 0 := by decide +kernel
          rw [e0]
          omega
        walk_at "rd"
        refine ⟨_, _, rfl, rfl, ?_, ?_⟩
        · have l1 : (Txt.join (Str.ofString "") ys).length ≤ 8 := by
            have z := hno.hi
            rw [TL.len_tl, TL.tl_append, List.length_append] at z
            rw [TL.len_tl]
            omega
          have l2 : (Str.ofString "x").length = 1 := by decide +kernel
          rw [l2]
          exact Nat.le_trans (Nat.add_le_add_right l1 1) (by decide)
        generalize Txt.join (Str.ofString "") ys ++ Str.ofString "x" = n at hno ⊢
        have hb6 : Box H6 bx 6 := by
          obtain ⟨b0, b1, b2, e, q1, q2, q3, q4⟩ := hb6
          exact ⟨b0, b1, b2, e, q1, q2, q3, by omega⟩
        clear hb4 hb5 b5 b6 hys hya hL Lbx P5
        walk_at "rd"
        refine r_make ?_
        walk_at "rd"
        rename_i kd nkd rw_ nrw gl ngl
        have s7 : Same H6 (upd (upd (upd H6 kd (.tup [.str "kind", .int 0])) rw_ (.tup [.str "hold", .str n, .ref kd])) gl (.lst [.ref rw_])) := ((same_new nkd).trans (same_new nrw)).trans (same_new ngl)
        have k7 : (upd (upd (upd H6 kd (.tup [.str "kind", .int 0])) rw_ (.tup [.str "hold", .str n, .ref kd])) gl (.lst [.ref rw_])) kd = some (.tup [.str "kind", .int 0]) := same_new ngl _ _ (same_new nrw _ _ upd_same)
        have r7 : (upd (upd (upd H6 kd (.tup [.str "kind", .int 0])) rw_ (.tup [.str "hold", .str n, .ref kd])) gl (.lst [.ref rw_])) rw_ = some (.tup [.str "hold", .str n, .ref kd]) := same_new ngl _ _ upd_same
        have g7 : (upd (upd (upd H6 kd (.tup [.str "kind", .int 0])) rw_ (.tup [.str "hold", .str n, .ref kd])) gl (.lst [.ref rw_])) gl = some (.lst [.ref rw_]) := upd_same
        generalize upd (upd (upd H6 kd (.tup [.str "kind", .int 0])) rw_ (.tup [.str "hold", .str n, .ref kd])) gl (.lst [.ref rw_]) = H7 at s7 k7 r7 g7 ⊢
        refine q_mkGr' (K := K) (o := some (n, .ref rw_)) (.inr ⟨gl, rfl, g7, fun r e => by
          cases e
          exact ⟨rw_, .ref kd, rfl, r7, ⟨kd, rfl, k7⟩, hno⟩⟩) (fun ga H8 s8 hg => ?_)
        have s68 := s7.trans s8
        have P8 : Pv K [bx] H4 H8 := P6.same s68
        have hb8 := hb6.same s68
        clear hb6 k7 r7 g7 s7 s8 P6
        walk_at "rd"
        refine r_rng1 ?_
        walk_at "rd"
        refine q_take hb8 (by decide) (by decide) (by decide) (fun d4 H9 b9 hb9 hd40 hd41 => ?_)
        have P9 : Pv K [bx] H4 H9 := P8.trans (box_pv hb8 b9 hb9 P8.t)
        have hg9 := box_gr hb8 (ButT.of b9) hg
        walk_at "rd"
        refine ⟨by omega, by omega, ?_⟩
        intro L hL
        have Lbx : L ≠ bx := fun z => by
          obtain ⟨b0, b1, b2, e, _⟩ := hb9
          rw [z, e] at hL
          cases hL
        refine ⟨fun i m H' => But bx H9 H' ∧ Box H' bx (7 + i) ∧ i + m = d4.toNat ∧ ∃ (vs : List V) (ds : List Nat), H' L = some (.lst vs) ∧ TsAll H' (ds.map T.kind) vs ∧ ds.length = i ∧ ∀ d ∈ ds, d < 5, ⟨d4.toNat, (But.of (same_new hL)), ?_, by omega, [], [], upd_same, trivial, rfl, fun _ z => nomatch z⟩, ?_⟩
        · obtain ⟨b0, b1, b2, e, q⟩ := hb9
          exact ⟨b0, b1, b2, by rw [upd_ne Lbx.symm]; exact e, q⟩
        rintro i' m' H10 ⟨b10, hb10, him, vs, ds, hvs, hts, hdl, hda⟩
        cases m' with
        | succ m' =>
          refine .inr ⟨(show i' < d4.toNat by omega), fun H' => But bx H9 H' ∧ Box H' bx (7 + (i' + 1)) ∧ (i' + 1) + m' = d4.toNat ∧ ∃ (vs : List V) (ds : List Nat), H' L = some (.lst vs) ∧ TsAll H' (ds.map T.kind) vs ∧ ds.length = i' + 1 ∧ ∀ d ∈ ds, d < 5, fun H' z => ⟨m', by omega, z⟩, fun x H11 hx => ?_⟩
          obtain ⟨rfl, rfl⟩ := hx
          walk_at "rd"
          refine ⟨rfl, ?_⟩
          refine r_yes ?_
          walk_at "rd"
          refine q_take hb10 (by omega) (by decide) (by decide) (fun d8 H12 b12 hb12 hd80 hd81 => ?_)
          walk_at "rd"
          rename_i kt nkt
          have z8 : d8 = ((d8.toNat : Nat) : Int) := by omega
          have L12 := b12 _ _ Lbx hvs
          have ktL : kt ≠ L := fun z => by rw [z, L12] at nkt; cases nkt
          have tupk : ∀ c xs, H12 c = some (.tup xs) → (upd (upd H12 kt (.tup [.str "kind", .int d8])) L (.lst (vs ++ [.ref kt]))) c = some (.tup xs) := fun c xs e => by
            rw [upd_ne (fun z => by rw [z, L12] at e; cases e)]
            exact same_new nkt _ _ e
          refine ⟨vs, same_new nkt _ _ L12, ?_, fun c' o n e => ?_, ?_, by omega, vs ++ [.ref kt], ds ++ [d8.toNat], upd_same, ?_, by rw [List.length_append, hdl]; rfl, fun d hd => ?_⟩
          · have z := hts.len
            rw [List.length_map, hdl] at z
            rw [z]
            exact Nat.lt_of_le_of_lt (show i' ≤ 1000 by omega) (by decide)
          · rw [upd_ne (ne_of_none e hL)]
            exact same_new nkt _ _ (b12 _ _ n (b10 _ _ n e))
          · obtain ⟨b0, b1, b2, e, q⟩ := hb12
            exact ⟨b0, b1, b2, by rw [upd_ne Lbx.symm]; exact same_new nkt _ _ e, q⟩
          · rw [List.map_append]
            refine (hts.mono fun c xs e => tupk _ _ (box_tup hb10 (ButT.of b12) _ _ e)).app ⟨kt, rfl, ?_⟩
            show (upd (upd H12 kt (.tup [.str "kind", .int d8])) L (.lst (vs ++ [.ref kt]))) kt = _
            rw [upd_ne ktL, upd_same, ← z8]
          · rcases List.mem_append.mp hd with q | q
            · exact hda d q
            · rw [List.mem_singleton.mp q]
              omega
        | zero =>
          refine .inl ⟨(show d4.toNat ≤ i' by omega), ?_⟩
          have P10 : Pv K [bx] H4 H10 := P9.trans (box_pv hb9 b10 hb10 P9.t)
          have hg10 := box_gr hb9 (ButT.of b10) hg9
          have hb10 : Box H10 bx 10 := by
            obtain ⟨b0, b1, b2, e, q1, q2, q3, q4⟩ := hb10
            exact ⟨b0, b1, b2, e, q1, q2, q3, by omega⟩
          have hrm : RmK false H10 (ds.map T.kind) (.ref L) := ⟨L, vs, rfl, hvs, hts, fun t ht => by
            obtain ⟨d, hd, rfl⟩ := List.mem_map.mp ht
            exact ⟨d, rfl, hda d hd⟩, by rw [List.length_map]; omega⟩
          clear hb8 hb9 hg hg9 b9 b10 hL hts hvs Lbx P8 P9
          walk_at "rd"
          rename_i n1 nn1 n2 nn2 tv ntv
          have s11 : Same H10 (upd (upd (upd H10 n1 (.tup [.str "name", .str n])) n2 (.tup [.str "name", .str n])) tv (.tup [.str "all", .ref n1, .ref n2])) := ((same_new nn1).trans (same_new nn2)).trans (same_new ntv)
          have a11 : (upd (upd (upd H10 n1 (.tup [.str "name", .str n])) n2 (.tup [.str "name", .str n])) tv (.tup [.str "all", .ref n1, .ref n2])) n1 = some (.tup [.str "name", .str n]) := same_new ntv _ _ (same_new nn2 _ _ upd_same)
          have b11 : (upd (upd (upd H10 n1 (.tup [.str "name", .str n])) n2 (.tup [.str "name", .str n])) tv (.tup [.str "all", .ref n1, .ref n2])) n2 = some (.tup [.str "name", .str n]) := same_new ntv _ _ upd_same
          have c11 : (upd (upd (upd H10 n1 (.tup [.str "name", .str n])) n2 (.tup [.str "name", .str n])) tv (.tup [.str "all", .ref n1, .ref n2])) tv = some (.tup [.str "all", .ref n1, .ref n2]) := upd_same
          generalize upd (upd (upd H10 n1 (.tup [.str "name", .str n])) n2 (.tup [.str "name", .str n])) tv (.tup [.str "all", .ref n1, .ref n2]) = H11 at s11 a11 b11 c11 ⊢
          have P11 := P10.same s11
          have hb11 := hb10.same s11
          have hg11 := hg10.same s11
          refine ⟨bx, 10, .ref ga, .ref tv, .ref L, .ref rw_, n, ds.map T.kind, rfl, hb11, by decide, hg11, ⟨tv, .ref n1, .ref n2, rfl, c11, ⟨n1, rfl, a11⟩, ⟨n2, rfl, b11⟩⟩, hrm.same s11, P11.t, fun H12 p12 => ?_⟩
          have p12 : Pv K [bx] H11 H12 := p12
          have P12 := P11.trans p12
          have hg12 := box_gr hb11 (ButT.pv p12) hg11
          clear hg10 hg11 hb10 hrm a11 b11 c11
          walk_at "rd"
          refine r_mkK ?_
          walk_at "rd"
          rename_i kw nkw
          have s13 : Same H12 (upd H12 kw (.tup [.str "kind", .int 0])) := same_new nkw
          have k13 : (upd H12 kw (.tup [.str "kind", .int 0])) kw = some (.tup [.str "kind", .int 0]) := upd_same
          generalize upd H12 kw (.tup [.str "kind", .int 0]) = H13 at s13 k13 ⊢
          refine ⟨rfl, rfl, q_mkWk (K := K) (ts := []) (t := .kind 0) (h := 1) (hg12.same s13) ⟨kw, rfl, k13⟩ (show 0 ≤ 5 by decide) (show 0 < 2 by decide) ⟨by decide, rfl⟩ (.inl ⟨rfl, rfl⟩) (fun wa D H14 s14 hW _ _ => ?_)⟩
          obtain ⟨p0, hW0, _⟩ := hW
          have P14 : Pv K [bx] H4 H14 := (P12.same s13).same s14
          walk_at "rd"
          refine q_lenW (K := K) (xs := [0]) hW0 rfl (by decide) (fun i x hx => ?_) (fun H15 s15 => ?_)
          · cases i with
            | zero =>
              cases hx
              exact .inl ⟨rfl, rfl⟩
            | succ i => cases hx
          have P15 := P14.same s15
          rw [show (([0] : List Int).filter fun x => (valV ([] : List (Key × V)) (.inl x)).isNone).length = 1 from rfl]
          walk_at "rd"
          exact ⟨(P2.same s4).fresh (fun c hc => by
            rw [List.mem_singleton.mp hc]
            exact P2.n _ hbn) P15, _, _, _, _, _, _, rfl⟩
    · obtain ⟨P2, v1, v2, v3, v4, v5, v6, rfl⟩ := hP
      walk_at "rd"
      exact kq _
end
end
end Kx
namespace Kx
open PySem PySem.Spec PyProof.Rows L2
theorem run_all (w : World) : HandSHeadRun.RunEq R view hk ob 12000 names w :=
  PySem.W.byRow2 "special-get-raises" (P := fun w => HandSHeadRun.RunEq R view hk ob 12000 names w) (fun w => Kh.run_of (seen_f w) (facts_f w)) (fun w => Kh.run_of (seen_t w) (facts_t w)) w
theorem law_at (w : World) (mg : Str → Option Value) (fa : Addr) (h : Heap) (Y : hk.says w h) (G : h.Ns mainGlobals mg) (hmg : mg "law" = some (.ref fa)) :
    ∃ K : PySem.W.Frag, K.In h ∧ LamX.LawAtS PySem.Challenge.rw_kernelpapers_k99_works_by_names w K C8.CX0 25 63 "_law_script" mg fa h := by
  obtain ⟨K, KX, c⟩ := Y
  have B : Bk w K mg := ⟨h, KX, G, c⟩
  obtain ⟨fd, F⟩ := D_law B
  have e := hmg.symm.trans (g_law B)
  cases e
  have b := FunD.bindsA (ps := ["_law_script"]) F fun _ _ _ _ _ _ us hl => match us, hl with | [_], _ => rfl
  have m1 : (("done_bring", none) : He.Defn) ∈ tf := List.mem_cons_self ..
  have m2 : (("done_give", none) : He.Defn) ∈ tf := List.mem_cons_of_mem _ (List.mem_cons_self ..)
  refine ⟨K, KX, fd, [(cB K, tB K), (cG K, tG K)], sp_law K, fun p hp => ?_, fun p hp => ?_, fun p hp => ?_, fun s v => b s [v] rfl, fun H a ns hl _ hH hS => ⟨a, ns, rfl, hS, fun p hp => ?_, fun _ => rfl⟩, fun base _ _ hTB => ?_⟩
  · simp only [List.mem_cons, List.not_mem_nil, or_false] at hp
    rcases hp with rfl | rfl
    · exact c.empty _ m1
    · exact c.empty _ m2
  · simp only [List.mem_cons, List.not_mem_nil, or_false] at hp
    rcases hp with rfl | rfl
    · exact c.out _ m1
    · exact c.out _ m2
  · simp only [List.mem_cons, List.not_mem_nil, or_false] at hp
    rcases hp with rfl | rfl
    · exact PySem.W.codeHd_of_K KX (c.hd _ m1)
    · exact PySem.W.codeHd_of_K KX (c.hd _ m2)
  · unfold TT at hp
    simp only [List.mem_cons, List.not_mem_nil, or_false] at hp
    rcases hp with rfl | rfl
    · exact NdefX.TabN.nil (hH (cB K, tB K) (List.mem_cons_self ..))
    · exact NdefX.TabN.nil (hH (cG K, tG K) (List.mem_cons_of_mem _ (List.mem_cons_self ..)))
  · exact fn_law B ⟨hTB (cB K, tB K) (List.mem_cons_self ..), hTB (cG K, tG K) (List.mem_cons_of_mem _ (List.mem_cons_self ..))⟩ F
end Kx
open PySem PySem.W PySem.Calls PyProof.Rows
theorem PySem.Challenge.cw_kernelpapers_k99_works_by_names_holds : PySem.Challenge.rw_kernelpapers_k99_works_by_names.Holds := by
  w_on; o_law
  refine HandSHeadRun.head_any (r := OpenLaw.row PySem.Challenge.rw_kernelpapers_k99_works_by_names) (q := Kx.view) (H := Kx.hk) (ob := Kx.ob) (M := 12000) (loose := Kx.names) (d := HandSHeadRun.topDef (OpenLaw.row PySem.Challenge.rw_kernelpapers_k99_works_by_names).prog 148) (kwd := []) (Kh.obZ_eq _ _ _ _ _ _)
    (by kernel_rfl) (fun s => by kernel_rfl) Kx.run_all (by kernel_rfl) (by kernel_rfl) (by kernel_rfl) (by rfl) (by first | assumption | decide +kernel) (by decide +kernel) ⟨rfl, rfl, rfl, rfl, rfl, by decide +kernel⟩ ?hw ?hc
  case hw => w_witness2
  case hc =>
    refine LamX.walk_ofTsE (l := PySem.Challenge.rw_kernelpapers_k99_works_by_names) (n := 63) (k := 25) (x := "_law_script") (CX := fun _ => C8.CX0) rfl (by decide) (by kernel_rfl) ⟨rfl, by decide, by decide⟩ ?F (fun _ _ _ _ _ z => z)
    intro w mg fa h Y G hmg0
    have hmg : mg ("law" : PySem.Str) = some (.ref fa) := by
      have e : (HandSHeadRun.topDef (OpenLaw.row PySem.Challenge.rw_kernelpapers_k99_works_by_names).prog 148).name = ("law" : PySem.Str) := by kernel_rfl
      rw [← e]
      exact hmg0
    exact Kx.law_at w mg fa h Y G hmg
