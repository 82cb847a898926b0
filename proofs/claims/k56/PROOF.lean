import PyProof.Rows.All
import Wide.All
import OpenK.AllK
import Wide.FinOn
import KE.KStateDown
import Lean
import HandS.ForMost
import HandS.Exc
import HandS.More
import HandS.NoneIn
import HandS.StrMore
import HandS.Style
import HandS.TupAny
import HandS.Words
import HandS.WordsExc
import HandS.Defaults
import HandS.Head0
import HandS.Head1
import HandS.Head2
import HandS.HeadEnd
import HandS.HeadHook1
import HandS.HeadHook2
import HandS.IsInst
import HandS.Flow
import HandS.Zip
import HandS.Rev
import HandS.WideMore
import HandS.Deep
import HandS.TupMul
import HandS.ExcInit
import HandS.TryMany
import HandS.SortKw
import HandS.SortInts
import HandS.TupLen
import HandS.DictTup
import HandS.ListItems
import HandS.Conv
import HandS.Replace
import PyProof.ListStr
import PyProof.TupleOfStr
import KE.GoesEnum
import KE.GoesRev
import HandS.Lambda
import HandS.HeadWalk
import KE.DataMinMax
import KE.DataMinKey
import KE.SortData
import KE.SortKeyHeap
import PyProof.Rows.StrCountLaw
import HandS.Strs
import HandS.Text
import HandS.TryOnly
import HandS.SetFor
import PyProof.FitsReplace
import PyProof.Rows.StrCase
import HandS.HotCalls
import HandS.TupSets
import PySem.Challenge.RW_newletters_k56_roads_and_papers_written
set_option Elab.async false
set_option linter.all false
set_option maxRecDepth 100000
set_option maxHeartbeats 4000000
namespace Z
open PySem PySem.Spec PyProof.Rows L2
abbrev Frag := PySem.W.Frag
/-- the marks ahead: code objects whose tables are tracked; each table, the name of what it tells -/
def ttO (o : Obj) : Option (Addr × Str) := match o.data with
  | .fields vs => (match vs[11]?, vs[1]? with
    | some (Value.ref P), some (Value.str q _) => some (P, (q ++ ".<locals>.") ++ "<lambda>")
    | _, _ => none)
  | _ => none
def TTab : Frag → List (Addr × Str)
  | [] => []
  | (_, o) :: K => match ttO o with
    | some p => p :: TTab K
    | none => []
def laName (qual : Str) : Str := (qual ++ ".<locals>.") ++ "<lambda>"
def obsN (n : Nat) (fa : List He.Fa) (fn : List He.DefD) (ex : Frag → Bool) (g : Addr → Option Obj) : He.AlD × Bool := (He.obsD fa fn (He.frG g (He.asD g n)), ex (He.frG g (He.asD g n)) && (TTab (He.frG g (He.asD g n))).isEmpty)
def hook1 (n : Nat) (fa : List He.Fa) (fn : List He.DefD) (ex : Frag → Bool) : PySem.W.Hook where
  α := He.AlD × Bool
  obs := fun s => obsN n fa fn ex s.heap.get?
  val := fun _ => (He.valD fn, true)
  says := fun _ _ => True
  of := fun _ _ _ => trivial
  keeps := fun _ _ _ _ _ => trivial
def S (l : List Nat) : Str := ⟨l.toArray⟩
end Z
namespace T
open PySem PySem.Spec PyProof.Rows L2 Z
def top (i : Nat) : Stmt := PySem.Challenge.pw_newletters_k56_roads_and_papers_written.main.body.getD i (.Pass ⟨0, 0, 0, 0⟩)
abbrev s_law_flow : Stmt := top 28
def dd_law_flow : He.DefD := ⟨("_law_flow", none), "_law_flow", "_law_flow", defArgs s_law_flow, defBody s_law_flow, defScope s_law_flow, [], []⟩
abbrev s_law_pick : Stmt := top 29
def dd_law_pick : He.DefD := ⟨("_law_pick", none), "_law_pick", "_law_pick", defArgs s_law_pick, defBody s_law_pick, defScope s_law_pick, [], []⟩
abbrev s_law_step_text : Stmt := top 39
def dd_law_step_text : He.DefD := ⟨("_law_step_text", none), "_law_step_text", "_law_step_text", defArgs s_law_step_text, defBody s_law_step_text, defScope s_law_step_text, [], []⟩
abbrev s_law_road_text : Stmt := top 41
def dd_law_road_text : He.DefD := ⟨("_law_road_text", none), "_law_road_text", "_law_road_text", defArgs s_law_road_text, defBody s_law_road_text, defScope s_law_road_text, [], []⟩
abbrev s_law_flow_text : Stmt := top 40
def dd_law_flow_text : He.DefD := ⟨("_law_flow_text", none), "_law_flow_text", "_law_flow_text", defArgs s_law_flow_text, defBody s_law_flow_text, defScope s_law_flow_text, [], []⟩
abbrev s_law_paper_text : Stmt := top 42
def dd_law_paper_text : He.DefD := ⟨("_law_paper_text", none), "_law_paper_text", "_law_paper_text", defArgs s_law_paper_text, defBody s_law_paper_text, defScope s_law_paper_text, [], []⟩
abbrev s_law_alike : Stmt := top 30
def dd_law_alike : He.DefD := ⟨("_law_alike", none), "_law_alike", "_law_alike", defArgs s_law_alike, defBody s_law_alike, defScope s_law_alike, [], []⟩
abbrev s_change_text : Stmt := top 13
def dd_change_text : He.DefD := ⟨("change_text", none), "change_text", "change_text", defArgs s_change_text, defBody s_change_text, defScope s_change_text, [], []⟩
abbrev s_flow_text : Stmt := top 15
def dd_flow_text : He.DefD := ⟨("flow_text", none), "flow_text", "flow_text", defArgs s_flow_text, defBody s_flow_text, defScope s_flow_text, [], []⟩
abbrev s_show_paper : Stmt := top 17
def dd_show_paper : He.DefD := ⟨("show_paper", none), "show_paper", "show_paper", defArgs s_show_paper, defBody s_show_paper, defScope s_show_paper, [], []⟩
abbrev s_rows_of : Stmt := top 24
def dd_rows_of : He.DefD := ⟨("rows_of", none), "rows_of", "rows_of", defArgs s_rows_of, defBody s_rows_of, defScope s_rows_of, [], []⟩
abbrev s_letters_of : Stmt := top 6
def dd_letters_of : He.DefD := ⟨("letters_of", none), "letters_of", "letters_of", defArgs s_letters_of, defBody s_letters_of, defScope s_letters_of, [], []⟩
abbrev s_is_number : Stmt := top 20
def dd_is_number : He.DefD := ⟨("is_number", none), "is_number", "is_number", defArgs s_is_number, defBody s_is_number, defScope s_is_number, [], []⟩
abbrev s_read_entry : Stmt := top 21
def dd_read_entry : He.DefD := ⟨("read_entry", none), "read_entry", "read_entry", defArgs s_read_entry, defBody s_read_entry, defScope s_read_entry, [], []⟩
abbrev s_read_flow : Stmt := top 22
def dd_read_flow : He.DefD := ⟨("read_flow", none), "read_flow", "read_flow", defArgs s_read_flow, defBody s_read_flow, defScope s_read_flow, [], []⟩
abbrev s_letters_of__t : Stmt := top 6
def dd_letters_of__t : He.DefD := ⟨("letters_of", none), "letters_of", "letters_of", defArgs s_letters_of__t, defBody s_letters_of__t, defScope s_letters_of__t, [], []⟩
abbrev s_contrary : Stmt := top 7
def dd_contrary : He.DefD := ⟨("contrary", none), "contrary", "contrary", defArgs s_contrary, defBody s_contrary, defScope s_contrary, [], []⟩
abbrev s_is_side : Stmt := top 9
def dd_is_side : He.DefD := ⟨("is_side", none), "is_side", "is_side", defArgs s_is_side, defBody s_is_side, defScope s_is_side, [], []⟩
abbrev s_is_change : Stmt := top 10
def dd_is_change : He.DefD := ⟨("is_change", none), "is_change", "is_change", defArgs s_is_change, defBody s_is_change, defScope s_is_change, [], []⟩
abbrev s_look_change : Stmt := top 11
def dd_look_change : He.DefD := ⟨("look_change", none), "look_change", "look_change", defArgs s_look_change, defBody s_look_change, defScope s_look_change, [], []⟩
abbrev s_read_change : Stmt := top 18
def dd_read_change : He.DefD := ⟨("read_change", none), "read_change", "read_change", defArgs s_read_change, defBody s_read_change, defScope s_read_change, [], []⟩
abbrev s_read_paper : Stmt := top 26
def dd_read_paper : He.DefD := ⟨("read_paper", none), "read_paper", "read_paper", defArgs s_read_paper, defBody s_read_paper, defScope s_read_paper, [], []⟩
abbrev s_step_text : Stmt := top 14
def dd_step_text : He.DefD := ⟨("step_text", none), "step_text", "step_text", defArgs s_step_text, defBody s_step_text, defScope s_step_text, [], []⟩
abbrev s_show_road : Stmt := top 16
def dd_show_road : He.DefD := ⟨("show_road", none), "show_road", "show_road", defArgs s_show_road, defBody s_show_road, defScope s_show_road, [], []⟩
abbrev s_read_exchange : Stmt := top 19
def dd_read_exchange : He.DefD := ⟨("read_exchange", none), "read_exchange", "read_exchange", defArgs s_read_exchange, defBody s_read_exchange, defScope s_read_exchange, [], []⟩
abbrev s_read_step : Stmt := top 23
def dd_read_step : He.DefD := ⟨("read_step", none), "read_step", "read_step", defArgs s_read_step, defBody s_read_step, defScope s_read_step, [], []⟩
abbrev s_read_road : Stmt := top 25
def dd_read_road : He.DefD := ⟨("read_road", none), "read_road", "read_road", defArgs s_read_road, defBody s_read_road, defScope s_read_road, [], []⟩
abbrev s_law_right : Stmt := top 43
def dd_law_right : He.DefD := ⟨("_law_right", none), "_law_right", "_law_right", defArgs s_law_right, defBody s_law_right, defScope s_law_right, [], []⟩
abbrev s_law_letters : Stmt := top 31
def dd_law_letters : He.DefD := ⟨("_law_letters", none), "_law_letters", "_law_letters", defArgs s_law_letters, defBody s_law_letters, defScope s_law_letters, [], []⟩
abbrev s_law_contrary : Stmt := top 32
def dd_law_contrary : He.DefD := ⟨("_law_contrary", none), "_law_contrary", "_law_contrary", defArgs s_law_contrary, defBody s_law_contrary, defScope s_law_contrary, [], []⟩
abbrev s_law_drawn_change : Stmt := top 33
def dd_law_drawn_change : He.DefD := ⟨("_law_drawn_change", none), "_law_drawn_change", "_law_drawn_change", defArgs s_law_drawn_change, defBody s_law_drawn_change, defScope s_law_drawn_change, [], []⟩
abbrev s_law_exchange : Stmt := top 34
def dd_law_exchange : He.DefD := ⟨("_law_exchange", none), "_law_exchange", "_law_exchange", defArgs s_law_exchange, defBody s_law_exchange, defScope s_law_exchange, [], []⟩
abbrev s_law_drawn_step : Stmt := top 35
def dd_law_drawn_step : He.DefD := ⟨("_law_drawn_step", none), "_law_drawn_step", "_law_drawn_step", defArgs s_law_drawn_step, defBody s_law_drawn_step, defScope s_law_drawn_step, [], []⟩
abbrev s_law_drawn_road : Stmt := top 37
def dd_law_drawn_road : He.DefD := ⟨("_law_drawn_road", none), "_law_drawn_road", "_law_drawn_road", defArgs s_law_drawn_road, defBody s_law_drawn_road, defScope s_law_drawn_road, [], []⟩
abbrev s_law_drawn_entry : Stmt := top 36
def dd_law_drawn_entry : He.DefD := ⟨("_law_drawn_entry", none), "_law_drawn_entry", "_law_drawn_entry", defArgs s_law_drawn_entry, defBody s_law_drawn_entry, defScope s_law_drawn_entry, [], []⟩
abbrev s_law_drawn_paper : Stmt := top 38
def dd_law_drawn_paper : He.DefD := ⟨("_law_drawn_paper", none), "_law_drawn_paper", "_law_drawn_paper", defArgs s_law_drawn_paper, defBody s_law_drawn_paper, defScope s_law_drawn_paper, [], []⟩
abbrev s_law : Stmt := top 44
def dd_law : He.DefD := ⟨("law", none), "law", "law", defArgs s_law, defBody s_law, defScope s_law, [], []⟩
def fn : List He.DefD := [dd_law_flow, dd_law_pick, dd_law_step_text, dd_law_road_text, dd_law_flow_text, dd_law_paper_text, dd_law_alike, dd_change_text, dd_flow_text, dd_show_paper, dd_rows_of, dd_letters_of, dd_is_number, dd_read_entry, dd_read_flow, dd_letters_of__t, dd_contrary, dd_is_side, dd_is_change, dd_look_change, dd_read_change, dd_read_paper, dd_step_text, dd_show_road, dd_read_exchange, dd_read_step, dd_read_road, dd_law_right, dd_law_letters, dd_law_contrary, dd_law_drawn_change, dd_law_exchange, dd_law_drawn_step, dd_law_drawn_road, dd_law_drawn_entry, dd_law_drawn_paper, dd_law]
def fa : List He.Fa := [.glo "_law_flow", .glo "_law_pick", .glo "_law_step_text", .glo "_law_road_text", .glo "_law_flow_text", .glo "_law_paper_text", .glo "_law_alike", .glo "change_text", .glo "flow_text", .glo "show_paper", .glo "rows_of", .glo "letters_of", .glo "is_number", .glo "read_entry", .glo "read_flow", .glo "letters_of", .glo "contrary", .glo "is_side", .glo "is_change", .glo "look_change", .glo "read_change", .glo "read_paper", .glo "step_text", .glo "show_road", .glo "read_exchange", .glo "read_step", .glo "read_road", .glo "_law_right", .glo "_law_letters", .glo "_law_contrary", .glo "_law_drawn_change", .glo "_law_exchange", .glo "_law_drawn_step", .glo "_law_drawn_road", .glo "_law_drawn_entry", .glo "_law_drawn_paper", .glo "law", .free "all", .free "bool", .free "enumerate", .free "int", .free "isinstance", .free "len", .free "list", .free "range", .free "set", .free "sorted", .free "str", .free "tuple", .str "ALL_LETTERS" "aAbBcCdD"]
abbrev Rw : PySem.W.OpenRow := PySem.W.OpenLaw.row PySem.Challenge.rw_newletters_k56_roads_and_papers_written
def ex (_ : PySem.W.Frag) : Bool := true
def ms : List He.DefD := []
def ob (s : PySem.W.SharedT) : He.AlD × Bool := obsN 4 fa fn ex (HandSHeadRun.getT s)
def loose : List PySem.Str := "__name__" :: "LetterError" :: "NoText" :: "NoChange" :: "ALL_LETTERS" :: "letters_of" :: "contrary" :: "is_side" :: "is_change" :: "look_change" :: "change_text" :: "step_text" :: "flow_text" :: "show_road" :: "show_paper" :: "read_change" :: "read_exchange" :: "is_number" :: "read_entry" :: "read_flow" :: "read_step" :: "rows_of" :: "read_road" :: "read_paper" :: "_law_flow" :: "_law_pick" :: "_law_alike" :: "_law_letters" :: "_law_contrary" :: "_law_drawn_change" :: "_law_exchange" :: "_law_drawn_step" :: "_law_drawn_entry" :: "_law_drawn_road" :: "_law_drawn_paper" :: "_law_step_text" :: "_law_flow_text" :: "_law_road_text" :: "_law_paper_text" :: "_law_right" :: []
theorem ob_eq0 (s : PySem.W.SharedT) : ob s = (hook1 4 fa fn ex).obs s.abs := by
  have e : HandSHeadRun.getT s = s.abs.heap.get? := funext (HandSHeadRun.getT_eq s)
  unfold ob
  rw [e]
  rfl
section
open PySem.W PySem.Calls
set_option maxHeartbeats 0 in
theorem holds_of {S : World → Heap → Prop} (hof : ∀ w s, (hook1 4 fa fn ex).obs s = (hook1 4 fa fn ex).val w → S w s.heap) (hkp : ∀ w h h', S w h → (∀ b o, h.get? b = some o → h'.get? b = some o) → S w h')
    (run : ∀ w : World, HandSHeadRun.RunEq Rw (PySem.W.view Rw.prog [44]) (hook1 4 fa fn ex) ob 4000 loose w)
    (F : ∀ (w : World) (mg : Str → Option Value) (fa : Addr) (h : Heap), S w h → h.Ns mainGlobals mg → mg (HandSHeadRun.topDef Rw.prog 44).name = some (.ref fa) → ∃ K : PySem.W.Frag, K.In h ∧ LamX.LawAtS PySem.Challenge.rw_newletters_k56_roads_and_papers_written w K L2.CX0 11 63 "_law_script" mg fa h) : PySem.Challenge.rw_newletters_k56_roads_and_papers_written.Holds := by
  w_on; o_law
  refine HandSHeadRun.head_any (r := OpenLaw.row PySem.Challenge.rw_newletters_k56_roads_and_papers_written) (q := view (OpenLaw.row PySem.Challenge.rw_newletters_k56_roads_and_papers_written).prog [44]) (H := ⟨_, (hook1 4 fa fn ex).obs, (hook1 4 fa fn ex).val, S, hof, hkp⟩) (ob := ob) (M := 4000) (loose := loose) (d := HandSHeadRun.topDef (OpenLaw.row PySem.Challenge.rw_newletters_k56_roads_and_papers_written).prog 44) (kwd := []) ob_eq0
    (by kernel_rfl) (fun s => by kernel_rfl) run (by kernel_rfl) (by kernel_rfl) (by kernel_rfl) (by rfl) (by first | assumption | decide +kernel) (by decide +kernel) ⟨rfl, rfl, rfl, rfl, rfl, by decide +kernel⟩ ?hw ?hc
  case hw => w_witness2
  case hc =>
    refine LamX.walk_ofTsE (l := PySem.Challenge.rw_newletters_k56_roads_and_papers_written) (n := 63) (k := 11) (x := "_law_script") (CX := fun _ => L2.CX0) rfl (by decide) (by kernel_rfl) ⟨rfl, by decide, by decide⟩ ?F (fun _ _ _ _ _ z => z)
    exact F
theorem nm_law : (HandSHeadRun.topDef Rw.prog 44).name = ("law" : PySem.Str) := by kernel_rfl
end
theorem run0 (w : World) : HandSHeadRun.RunEq Rw (PySem.W.view Rw.prog [44]) (hook1 4 fa fn ex) ob 4000 loose w := by
  intro os
  kernel_rfl
end T
namespace Z
open PySem PySem.Spec L2
abbrev St := L2.St
/-- plain data; scr: the script's list -/
inductive D where
  | non | bl (b : Bool) | int (i : Int) | str (s : List Nat)
  | tup (l : List D) | lst (l : List D) | dic (l : List (D × D)) | scr (l : List D)
  /-- an exception: its class; its class, its one field -/
  | x0 (c : String) | x1 (c : String) (f : List Nat) (d : D)
  /-- a tuple of texts, known as an object (it has no dict) -/
  | ttp (ws : List (List Nat))
  deriving Inhabited
/-- what a name holds: nothing; shared data; a list or dict that is owned. p: it stands as the caller handed it in; l: it is walked, not changed -/
inductive Sl where
  | no | sh (p : Bool) (d : D) | ow (p l : Bool) (d : D)
  deriving Inhabited
abbrev Ev := List Sl
def Sl.get? : Sl → Option D
  | .no => none
  | .sh _ d => some d
  | .ow _ _ d => some d
def Sl.frz : Sl → Sl
  | .ow p _ d => .sh p d
  | s => s
theorem S_cps (s : Str) : S s.cps.toList = s := by cases s; simp [S]
theorem S_toList (l : List Nat) : (S l).cps.toList = l := by simp [S]
theorem S_inj {a b : List Nat} (h : S a = S b) : a = b := by
  have := congrArg (fun s : Str => s.cps.toList) h
  simpa [S] using this
theorem S_len (l : List Nat) : (S l).length = l.length := by simp [S, Str.length]
/-- a dict's key -/
def key1 : D → Option Key
  | .int i => some (.inl i)
  | .str s => some (.inr (S s))
  | _ => none
def keyT : D → Option (List Key)
  | .tup l => l.mapM key1
  | _ => none
/-- what stands at a, a lock taken off -/
def rd (F : Hp) (a : Addr) : Option HO := match F a with
  | some (.frz _ u) => some u
  | x => x
theorem rd_Rd {F : Hp} {a : Addr} {u : HO} (h : rd F a = some u) : Rd F a u := by
  unfold rd at h
  split at h
  · rename_i o w e; cases h; exact .inr ⟨o, e⟩
  · exact .inl h
theorem rd_of {F : Hp} {a : Addr} {u : HO} (h : F a = some u) (n : ∀ o w, u ≠ .frz o w) : rd F a = some u := by
  unfold rd; rw [h]
  cases u <;> first | rfl | exact absurd rfl (n _ _)
theorem rd_congr {F H : Hp} {a : Addr} (h : F a = H a) : rd F a = rd H a := by unfold rd; rw [h]
def isDic : HO → Bool
  | .dK _ => true
  | .dT _ => true
  | _ => false
/-- what a lock leaves as it is -/
def fixd : HO → Bool
  | .dK _ => false
  | .dT _ => false
  | .frz _ (.dK _) => false
  | .frz _ (.dT _) => false
  | _ => true
/-- at a: an exception of the class at C, its dict -/
def ExT (a C : Addr) (dd : Option Addr) : HO := .ext fun h => ∃ oe : Obj, h.get? a = some oe ∧ oe.cls = .ref C ∧ oe.dict = dd ∧ ∃ vs, oe.data = .fields vs
mutual
def Rp (K : Frag) (F : Hp) : D → V → Prop
  | .x0 c, v => ∃ a, v = .ref a ∧ F a = some (ExT a (He.ga K c) none)
  | .ttp ws, v => ∃ a o, v = .ref a ∧ F a = some (.frz o (.tup (ws.map fun w => V.str (S w)))) ∧ o.dict = none
  | .x1 c f d, v => ∃ a x w, v = .ref a ∧ F a = some (ExT a (He.ga K c) (some x)) ∧ F x = some (.xd [(S f, w)]) ∧ Rp K F d w
  | .non, v => v = .non
  | .bl b, v => v = .bl b
  | .int i, v => v = .int i
  | .str s, v => v = .str (S s)
  | .tup l, v => ∃ a vs, v = .ref a ∧ F a = some (.tup vs) ∧ Rps K F l vs
  | .lst l, v => ∃ a vs, v = .ref a ∧ F a = some (.lst vs) ∧ Rps K F l vs
  | .scr l, v => ∃ a vs, v = .ref a ∧ SqL K F a vs ∧ Rps K F l vs
  | .dic l, v => ∃ a, v = .ref a ∧ ((∃ kvs, rd F a = some (.dK kvs) ∧ RpK K F l kvs) ∨ (∃ kvs, rd F a = some (.dT kvs) ∧ RpM K F l kvs))
def Rps (K : Frag) (F : Hp) : List D → List V → Prop
  | [], vs => vs = []
  | d :: ds, vs => ∃ v r, vs = v :: r ∧ Rp K F d v ∧ Rps K F ds r
def RpK (K : Frag) (F : Hp) : List (D × D) → List (Key × V) → Prop
  | [], kvs => kvs = []
  | (k, d) :: l, kvs => ∃ q v r, kvs = (q, v) :: r ∧ key1 k = some q ∧ Rp K F d v ∧ RpK K F l r
def RpT (K : Frag) (F : Hp) : List (D × D) → List (List Key × V) → Prop
  | [], kvs => kvs = []
  | (k, d) :: l, kvs => ∃ q v r, kvs = (q, v) :: r ∧ keyT k = some q ∧ Rp K F d v ∧ RpT K F l r
/-- a dict whose keys are tuples: a mark stands ahead -/
def RpM (K : Frag) (F : Hp) : List (D × D) → List (List Key × V) → Prop
  | [], _ => False
  | (k, d) :: l, kvs => k = .non ∧ d = .non ∧ RpT K F l kvs
end
/-- F is a part of H -/
def Sub (F H : Hp) : Prop := ∀ b o, F b = some o → H b = some o
theorem Sub.none {F H : Hp} (s : Sub F H) {a : Addr} (n : H a = none) : F a = none := by
  cases e : F a with
  | none => rfl
  | some x => rw [s _ _ e] at n; cases n
/-- F' knows all that F knows (locks put on or off) -/
structure LeR (F F' : Hp) : Prop where
  fx : ∀ a u, F a = some u → fixd u = true → F' a = some u
  dc : ∀ a u, rd F a = some u → isDic u = true → rd F' a = some u
/-- .. locks put on alone -/
def Le (F F' : Hp) : Prop := ∀ a o, F a = some o → F' a = some o ∨ (isDic o = true ∧ ∃ ob, F' a = some (.frz ob o))
theorem Le.refl (F : Hp) : Le F F := fun _ _ h => .inl h
theorem Le.of {F F' : Hp} (h : Sub F F') : Le F F' := fun a o e => .inl (h a o e)
theorem Le.trans {F G H : Hp} (x : Le F G) (y : Le G H) : Le F H := fun a o e => by
  rcases x a o e with h | ⟨d, ob, h⟩
  · exact y a o h
  · rcases y a _ h with h2 | ⟨d2, _⟩
    · exact .inr ⟨d, ob, h2⟩
    · cases d2
theorem Le.r {F F' : Hp} (x : Le F F') : LeR F F' where
  fx := fun a u e f => by
    rcases x a u e with h | ⟨d, _⟩
    · exact h
    · cases u <;> first | (cases d; done) | (exact nomatch f)
  dc := fun a u e d => by
    unfold rd at e
    split at e
    · rename_i o w q
      cases e
      rcases x a _ q with h | ⟨d2, _⟩
      · unfold rd; rw [h]
      · cases d2
    · rcases x a u e with h | ⟨d2, ob, h⟩
      · exact rd_of h fun o w z => by subst z; cases d
      · unfold rd; rw [h]
theorem LeR.refl (F : Hp) : LeR F F := (Le.refl F).r
theorem sq_le {K : Frag} {F H : Hp} {a : Addr} {xs : List V} (s : LeR F H) (h : SqL K F a xs) : SqL K H a xs := by
  rcases h with (h | ⟨o, h⟩) | h
  · exact .inl (.inl (s.fx _ _ h rfl))
  · exact .inl (.inr ⟨o, s.fx _ _ h rfl⟩)
  · exact .inr h
theorem sq_sub {K : Frag} {F H : Hp} {a : Addr} {xs : List V} (s : Sub F H) (h : SqL K F a xs) : SqL K H a xs := by
  rcases h with (h | ⟨o, h⟩) | h
  · exact .inl (.inl (s _ _ h))
  · exact .inl (.inr ⟨o, s _ _ h⟩)
  · exact .inr h
mutual
theorem Rp.mono {K : Frag} {F H : Hp} (s : LeR F H) : ∀ (d : D) (v : V), Rp K F d v → Rp K H d v
  | .non, _, h => by simpa only [Rp] using h
  | .bl _, _, h => by simpa only [Rp] using h
  | .int _, _, h => by simpa only [Rp] using h
  | .str _, _, h => by simpa only [Rp] using h
  | .tup l, v, h => by
    simp only [Rp] at h ⊢
    obtain ⟨a, vs, e, q, r⟩ := h
    exact ⟨a, vs, e, s.fx _ _ q rfl, Rps.mono s l vs r⟩
  | .lst l, v, h => by
    simp only [Rp] at h ⊢
    obtain ⟨a, vs, e, q, r⟩ := h
    exact ⟨a, vs, e, s.fx _ _ q rfl, Rps.mono s l vs r⟩
  | .scr l, v, h => by
    simp only [Rp] at h ⊢
    obtain ⟨a, vs, e, q, r⟩ := h
    exact ⟨a, vs, e, sq_le s q, Rps.mono s l vs r⟩
  | .dic l, v, h => by
    simp only [Rp] at h ⊢
    obtain ⟨a, e, q⟩ := h
    refine ⟨a, e, ?_⟩
    rcases q with ⟨kvs, q, r⟩ | ⟨kvs, q, r⟩
    · exact .inl ⟨kvs, s.dc _ _ q rfl, RpK.mono s l kvs r⟩
    · exact .inr ⟨kvs, s.dc _ _ q rfl, RpM.mono s l kvs r⟩
  | .ttp ws, v, h => by
    simp only [Rp] at h ⊢
    obtain ⟨a, o, e, q, r⟩ := h
    exact ⟨a, o, e, s.fx _ _ q rfl, r⟩
  | .x0 c, v, h => by
    simp only [Rp] at h ⊢
    obtain ⟨a, e, q⟩ := h
    exact ⟨a, e, s.fx _ _ q rfl⟩
  | .x1 c f d, v, h => by
    simp only [Rp] at h ⊢
    obtain ⟨a, x, w, e, q, q2, r⟩ := h
    exact ⟨a, x, w, e, s.fx _ _ q rfl, s.fx _ _ q2 rfl, Rp.mono s d w r⟩
theorem Rps.mono {K : Frag} {F H : Hp} (s : LeR F H) : ∀ (l : List D) (vs : List V), Rps K F l vs → Rps K H l vs
  | [], _, h => by simpa only [Rps] using h
  | d :: ds, vs, h => by
    simp only [Rps] at h ⊢
    obtain ⟨v, r, e, h1, h2⟩ := h
    exact ⟨v, r, e, Rp.mono s d v h1, Rps.mono s ds r h2⟩
theorem RpK.mono {K : Frag} {F H : Hp} (s : LeR F H) : ∀ (l : List (D × D)) (kvs : List (Key × V)), RpK K F l kvs → RpK K H l kvs
  | [], _, h => by simpa only [RpK] using h
  | (k, d) :: l, kvs, h => by
    simp only [RpK] at h ⊢
    obtain ⟨q, v, r, e, e2, h1, h2⟩ := h
    exact ⟨q, v, r, e, e2, Rp.mono s d v h1, RpK.mono s l r h2⟩
theorem RpT.mono {K : Frag} {F H : Hp} (s : LeR F H) : ∀ (l : List (D × D)) (kvs : List (List Key × V)), RpT K F l kvs → RpT K H l kvs
  | [], _, h => by simpa only [RpT] using h
  | (k, d) :: l, kvs, h => by
    simp only [RpT] at h ⊢
    obtain ⟨q, v, r, e, e2, h1, h2⟩ := h
    exact ⟨q, v, r, e, e2, Rp.mono s d v h1, RpT.mono s l r h2⟩
theorem RpM.mono {K : Frag} {F H : Hp} (s : LeR F H) : ∀ (l : List (D × D)) (kvs : List (List Key × V)), RpM K F l kvs → RpM K H l kvs
  | [], _, h => by simp only [RpM] at h
  | (k, d) :: l, kvs, h => by
    simp only [RpM] at h ⊢
    exact ⟨h.1, h.2.1, RpT.mono s l kvs h.2.2⟩
end
theorem Rps.length {K : Frag} {F : Hp} : ∀ {l : List D} {vs : List V}, Rps K F l vs → l.length = vs.length
  | [], _, h => by simp only [Rps] at h; subst h; rfl
  | d :: ds, vs, h => by
    simp only [Rps] at h
    obtain ⟨v, r, e, _, h2⟩ := h
    subst e
    simp [Rps.length h2]
theorem Rps.nil {K : Frag} {F : Hp} : Rps K F [] [] := by simp only [Rps]
theorem Rps.cons {K : Frag} {F : Hp} {d : D} {v : V} {l : List D} {vs : List V} (h1 : Rp K F d v) (h2 : Rps K F l vs) : Rps K F (d :: l) (v :: vs) := by
  simp only [Rps]; exact ⟨v, vs, rfl, h1, h2⟩
theorem Rps.cases1 {K : Frag} {F : Hp} {d : D} {l : List D} {vs : List V} (h : Rps K F (d :: l) vs) : ∃ v r, vs = v :: r ∧ Rp K F d v ∧ Rps K F l r := by simpa only [Rps] using h
theorem Rps.get {K : Frag} {F : Hp} : ∀ {l : List D} {vs : List V} {i : Nat} {d : D}, Rps K F l vs → l[i]? = some d → ∃ v, vs[i]? = some v ∧ Rp K F d v
  | [], _, _, _, _, e => by simp at e
  | d :: ds, vs, i, x, h, e => by
    obtain ⟨v, r, e1, h1, h2⟩ := h.cases1
    subst e1
    cases i with
    | zero => simp at e; subst e; exact ⟨v, rfl, h1⟩
    | succ i => simpa using Rps.get h2 (by simpa using e)
theorem Rps.append {K : Frag} {F : Hp} : ∀ {l m : List D} {vs ws : List V}, Rps K F l vs → Rps K F m ws → Rps K F (l ++ m) (vs ++ ws)
  | [], _, _, _, h, h' => by simp only [Rps] at h; subst h; exact h'
  | d :: ds, _, _, _, h, h' => by
    obtain ⟨v, r, e, h1, h2⟩ := h.cases1
    subst e
    exact Rps.cons h1 (Rps.append h2 h')
theorem Rps.take {K : Frag} {F : Hp} : ∀ (n : Nat) {l : List D} {vs : List V}, Rps K F l vs → Rps K F (l.take n) (vs.take n)
  | 0, _, _, _ => by simp [Rps.nil]
  | n + 1, [], _, h => by simp only [Rps] at h; subst h; simp [Rps.nil]
  | n + 1, d :: ds, _, h => by
    obtain ⟨v, r, e, h1, h2⟩ := h.cases1
    subst e
    exact Rps.cons h1 (Rps.take n h2)
theorem Rps.drop {K : Frag} {F : Hp} : ∀ (n : Nat) {l : List D} {vs : List V}, Rps K F l vs → Rps K F (l.drop n) (vs.drop n)
  | 0, _, _, h => h
  | n + 1, [], _, h => by simp only [Rps] at h; subst h; simp [Rps.nil]
  | n + 1, d :: ds, _, h => by
    obtain ⟨v, r, e, h1, h2⟩ := h.cases1
    subst e
    exact Rps.drop n h2
theorem Rps.set {K : Frag} {F : Hp} {d : D} {v : V} (h : Rp K F d v) : ∀ (i : Nat) {l : List D} {vs : List V}, Rps K F l vs → Rps K F (l.set i d) (vs.set i v)
  | _, [], _, h' => by simp only [Rps] at h'; subst h'; simp [Rps.nil]
  | 0, _ :: _, _, h' => by
    obtain ⟨w, r, e, h1, h2⟩ := h'.cases1
    subst e
    exact Rps.cons h h2
  | i + 1, _ :: _, _, h' => by
    obtain ⟨w, r, e, h1, h2⟩ := h'.cases1
    subst e
    exact Rps.cons h1 (Rps.set h i h2)
theorem Rps.dropLast {K : Frag} {F : Hp} {l : List D} {vs : List V} (h : Rps K F l vs) : Rps K F l.dropLast vs.dropLast := by
  have e := h.length
  have := h.take (l.length - 1)
  rw [List.dropLast_eq_take, List.dropLast_eq_take, ← e]; exact this
theorem Rps.reverse {K : Frag} {F : Hp} : ∀ {l : List D} {vs : List V}, Rps K F l vs → Rps K F l.reverse vs.reverse
  | [], _, h => by simp only [Rps] at h; subst h; simp [Rps.nil]
  | d :: ds, _, h => by
    obtain ⟨v, r, e, h1, h2⟩ := h.cases1
    subst e
    simp only [List.reverse_cons]
    exact (Rps.reverse h2).append (Rps.cons h1 Rps.nil)
theorem Rps.eraseIdx {K : Frag} {F : Hp} : ∀ (i : Nat) {l : List D} {vs : List V}, Rps K F l vs → Rps K F (l.eraseIdx i) (vs.eraseIdx i)
  | _, [], _, h' => by simp only [Rps] at h'; subst h'; simp [Rps.nil]
  | 0, _ :: _, _, h' => by
    obtain ⟨w, r, e, h1, h2⟩ := h'.cases1
    subst e
    exact h2
  | i + 1, _ :: _, _, h' => by
    obtain ⟨w, r, e, h1, h2⟩ := h'.cases1
    subst e
    exact Rps.cons h1 (Rps.eraseIdx i h2)
theorem Rps.rep {K : Frag} {F : Hp} {l : List D} {vs : List V} (h : Rps K F l vs) : ∀ k : Nat, Rps K F (List.replicate k l).flatten (List.replicate k vs).flatten
  | 0 => by simp [Rps.nil]
  | k + 1 => by
    rw [List.replicate_succ, List.replicate_succ, List.flatten_cons, List.flatten_cons]
    exact h.append (Rps.rep h k)
/-- an owned container at a: its contents are shared data -/
def Own (K : Frag) (F H : Hp) (a : Addr) : D → Prop
  | .lst l => ∃ vs, H a = some (.lst vs) ∧ Rps K F l vs
  | .dic l => (∃ kvs, rd H a = some (.dK kvs) ∧ RpK K F l kvs) ∨ (∃ kvs, rd H a = some (.dT kvs) ∧ RpM K F l kvs)
  | _ => False
theorem Own.mono {K : Frag} {F H F' H' : Hp} {a : Addr} {d : D} (s : LeR F F') (e : H a = H' a) (h : Own K F H a d) : Own K F' H' a d := by
  cases d with
  | lst l =>
    obtain ⟨vs, h1, h2⟩ := h
    exact ⟨vs, e ▸ h1, Rps.mono s _ _ h2⟩
  | dic l =>
    rcases h with ⟨kvs, h1, h2⟩ | ⟨kvs, h1, h2⟩
    · exact .inl ⟨kvs, rd_congr e ▸ h1, RpK.mono s _ _ h2⟩
    · exact .inr ⟨kvs, rd_congr e ▸ h1, RpM.mono s _ _ h2⟩
  | _ => exact h
theorem rd_some {H : Hp} {a : Addr} {u : HO} (h : rd H a = some u) : ∃ o, H a = some o := by
  unfold rd at h; split at h
  · rename_i q; exact ⟨_, q⟩
  · exact ⟨_, h⟩
theorem Own.there {K : Frag} {F H : Hp} {a : Addr} {d : D} (h : Own K F H a d) : ∃ o, H a = some o := by
  cases d with
  | lst l => obtain ⟨vs, h1, h2⟩ := h; exact ⟨_, h1⟩
  | dic l =>
    rcases h with ⟨kvs, h1, h2⟩ | ⟨kvs, h1, h2⟩ <;> exact rd_some h1
  | _ => exact h.elim
/-- owned, and then shared -/
theorem Own.rp {K : Frag} {F F' H : Hp} {a : Addr} {d : D} (h : Own K F H a d) (s : LeR F F') (e : F' a = H a) : Rp K F' d (.ref a) := by
  cases d with
  | lst l =>
    obtain ⟨vs, h1, h2⟩ := h
    simp only [Rp]; exact ⟨a, vs, rfl, e ▸ h1, Rps.mono s _ _ h2⟩
  | dic l =>
    simp only [Rp]
    rcases h with ⟨kvs, h1, h2⟩ | ⟨kvs, h1, h2⟩
    · exact ⟨a, rfl, .inl ⟨kvs, rd_congr e ▸ h1, RpK.mono s _ _ h2⟩⟩
    · exact ⟨a, rfl, .inr ⟨kvs, rd_congr e ▸ h1, RpM.mono s _ _ h2⟩⟩
  | _ => exact h.elim
/-- a tuple, a table of code objects -/
def isTT : HO → Bool
  | .tup _ => true
  | .tbl _ => true
  | _ => false
/-- what tables of code objects lean on -/
def isCo : HO → Bool
  | .tbl _ => true
  | .ext _ => true
  | _ => false
def isTb : HO → Bool
  | .tbl _ => true
  | _ => false
def NoTb (F : Hp) : Prop := ∀ b o, F b = some o → isTb o = false
theorem NoTb.upd {F : Hp} {a : Addr} {o : HO} (n : NoTb F) (h : isTb o = false) : NoTb (upd F a o) := fun b u e => by
  by_cases z : b = a
  · subst z; rw [upd_same] at e; cases e; exact h
  · rw [upd_ne z] at e; exact n b u e
theorem tabs_keep {T : List (Addr × Str)} {H H' : Hp} (t : LamX.Tabs T H) (k : ∀ b o, H b = some o → isCo o = true → H' b = some o) : LamX.Tabs T H' := fun p hp => by
  obtain ⟨ps, h1, h2, h3⟩ := t p hp
  refine ⟨ps, k _ _ h1 rfl, h2, fun pos cv hc => ?_⟩
  obtain ⟨c, e1, e2⟩ := h3 pos cv hc
  exact ⟨c, e1, k _ _ e2 rfl⟩
/-- from F, H to F', H': all that is not own is kept -/
structure Go (F H F' H' : Hp) (own : Addr → Prop) : Prop where
  fr : Le F F'
  keep : ∀ b o, H b = some o → F b = none → ¬ own b → isTT o = false → H' b = some o ∧ F' b = none
  dom : ∀ b, H b ≠ none → H' b ≠ none
theorem Go.refl {F H : Hp} {own : Addr → Prop} : Go F H F H own := ⟨Le.refl F, fun _ _ h n _ _ => ⟨h, n⟩, fun _ h => h⟩
theorem Go.trans {F H F1 H1 F2 H2 : Hp} {own own1 : Addr → Prop} (a : Go F H F1 H1 own) (b : Go F1 H1 F2 H2 own1) (s : ∀ c o, H c = some o → F c = none → own1 c → own c) : Go F H F2 H2 own :=
  ⟨a.fr.trans b.fr, fun c o h n w t => by
    obtain ⟨h1, n1⟩ := a.keep c o h n w t
    exact b.keep c o h1 n1 (fun z => w (s c o h n z)) t, fun c h => b.dom c (a.dom c h)⟩
/-- what a body knows of its entry: shared part, heap, slots; par: owned by its caller, lent; fresh: made since; bar: not to be touched; lk: where the walked containers stand -/
structure Gh where
  F : Hp
  H : Hp
  σ : St
  par : Addr → Prop
  fresh : Addr → Prop
  bar : Addr → Prop
  lk : Nat → Option Addr
/-- what may be changed of what stood at the entry -/
def Gh.own (G : Gh) (a : Addr) : Prop := ¬ G.bar a ∧ (G.par a ∨ G.fresh a)
def Gh.Ok (G : Gh) : Prop := ∀ a, G.H a = none → G.fresh a ∧ ¬ G.bar a
def NoFrz (H : Hp) (a : Addr) : Prop := ∀ ob u, H a ≠ some (.frz ob u)
def SlOk (K : Frag) (G : Gh) (F H : Hp) (i : Nat) : Sl → Option V → Prop
  | .no, _ => True
  | .sh p d, ov => (∃ v, ov = some v ∧ Rp K F d v) ∧ (p = true → some ov = G.σ[i]?)
  | .ow p l d, ov => ∃ a, ov = some (.ref a) ∧ F a = none ∧ Own K F H a d ∧ ¬ G.bar a ∧ (p = true → some ov = G.σ[i]? ∧ G.par a) ∧ (p = false → G.fresh a) ∧ (l = false → NoFrz H a) ∧ (l = true → G.lk i = some a)
def OwnAt (ρ : Ev) (σ : St) (i : Nat) (a : Addr) : Prop := ∃ p l d, ρ[i]? = some (.ow p l d) ∧ σ[i]? = some (some (.ref a))
structure Rep (K : Frag) (G : Gh) (F H : Hp) (ρ : Ev) (σ : St) : Prop where
  gok : G.Ok
  sub : Sub F H
  len : ρ.length = σ.length
  ok : ∀ (i : Nat) (s : Sl) (ov : Option V), ρ[i]? = some s → σ[i]? = some ov → SlOk K G F H i s ov
  inj : ∀ (i j : Nat) (a : Addr), OwnAt ρ σ i a → OwnAt ρ σ j a → i = j
  go : Go G.F G.H F H G.own
  tab : LamX.Tabs (TTab K) H
  ntb : NoTb F
section
variable {K : Frag} {G : Gh} {F H F' H' : Hp} {ρ ρ' : Ev} {σ : St} {i : Nat} {s : Sl} {ov : Option V} {d : D} {a : Addr} {v : V} {p l : Bool}
theorem SlOk.mono (f : LeR F F') (h : ∀ p l d a, s = .ow p l d → ov = some (.ref a) → H' a = H a ∧ F' a = none) (x : SlOk K G F H i s ov) : SlOk K G F' H' i s ov := by
  cases s with
  | no => trivial
  | sh p d =>
    obtain ⟨⟨v, e, q⟩, r⟩ := x
    exact ⟨⟨v, e, Rp.mono f _ _ q⟩, r⟩
  | ow p l d =>
    obtain ⟨a, e, n, q, r0, r1, r2, r3, r4⟩ := x
    obtain ⟨h1, h2⟩ := h p l d a rfl e
    exact ⟨a, e, h2, q.mono f h1.symm, r0, r1, r2, fun z ob u => by rw [h1]; exact r3 z ob u, r4⟩
theorem Rep.val (r : Rep K G F H ρ σ) (e : ρ[i]? = some s) : ∃ ov, σ[i]? = some ov ∧ SlOk K G F H i s ov := by
  have hi : i < ρ.length := (List.getElem?_eq_some_iff.mp e).1
  have hi' : i < σ.length := by rw [← r.len]; exact hi
  exact ⟨_, List.getElem?_eq_getElem hi', r.ok i s _ e (List.getElem?_eq_getElem hi')⟩
theorem Rep.ownAt (r : Rep K G F H ρ σ) (w : OwnAt ρ σ i a) : F a = none ∧ (∃ o, H a = some o) ∧ G.own a := by
  obtain ⟨p, l, d, e1, e2⟩ := w
  obtain ⟨a', e, n, q, r0, r1, r2, r3, r4⟩ := r.ok i _ _ e1 e2
  cases e
  refine ⟨n, q.there, r0, ?_⟩
  cases p
  · exact .inr (r2 rfl)
  · exact .inl (r1 rfl).2
theorem rd_co {H : Hp} {a : Addr} {u o : HO} (h : rd H a = some u) (k : isDic u = true) (e : H a = some o) : isTT o = false ∧ isCo o = false := by
  unfold rd at h; rw [e] at h
  cases o <;> first | exact ⟨rfl, rfl⟩ | (cases h; cases k)
theorem own_tb {K : Frag} {F H : Hp} {a : Addr} {d : D} {o : HO} (q : Own K F H a d) (e : H a = some o) : isTb o = false := by
  have : isCo o = false := by
    cases d with
    | lst l => obtain ⟨vs, h1, _⟩ := q; rw [h1] at e; cases e; rfl
    | dic l =>
      rcases q with ⟨kvs, h1, _⟩ | ⟨kvs, h1, _⟩
      · exact (rd_co h1 rfl e).2
      · exact (rd_co h1 rfl e).2
    | _ => exact q.elim
  cases o <;> first | rfl | (cases this)
theorem Rep.ownAtT (r : Rep K G F H ρ σ) (w : OwnAt ρ σ i a) {o : HO} (e : H a = some o) : isTT o = false ∧ isCo o = false := by
  obtain ⟨p, l, d, e1, e2⟩ := w
  obtain ⟨a', e', n, q, _⟩ := r.ok i _ _ e1 e2
  cases e'
  cases d with
  | lst l => obtain ⟨vs, h1, _⟩ := q; rw [h1] at e; cases e; exact ⟨rfl, rfl⟩
  | dic l =>
    rcases q with ⟨kvs, h1, _⟩ | ⟨kvs, h1, _⟩
    · exact rd_co h1 rfl e
    · exact rd_co h1 rfl e
  | _ => exact q.elim
/-- what is new now was not there at the entry -/
theorem Rep.fresh (r : Rep K G F H ρ σ) (n : H a = none) : G.fresh a ∧ ¬ G.bar a := by
  cases e : G.H a with
  | none => exact r.gok a e
  | some o => exact absurd n (r.go.dom a (by rw [e]; simp))
theorem Rep.freshOwn (r : Rep K G F H ρ σ) (n : H a = none) : G.own a := ⟨(r.fresh n).2, .inr (r.fresh n).1⟩
theorem Rep.notOwn (r : Rep K G F H ρ σ) (n : H a = none) (i : Nat) : ¬ OwnAt ρ σ i a := fun w => by
  obtain ⟨o, e⟩ := (r.ownAt w).2.1
  rw [n] at e; cases e
/-- a step of the heap that keeps what the slots own -/
theorem Rep.step (r : Rep K G F H ρ σ) (s : Sub F' H') (f : LeR F F') (k : ∀ i a, OwnAt ρ σ i a → H' a = H a ∧ F' a = none) (g : Go G.F G.H F' H' G.own) (t : LamX.Tabs (TTab K) H') (nt : NoTb F') : Rep K G F' H' ρ σ where
  gok := r.gok
  sub := s
  len := r.len
  ok := fun i s ov e1 e2 => (r.ok i s ov e1 e2).mono f fun p l d a q1 q2 => k i a ⟨p, l, d, q1 ▸ e1, q2 ▸ e2⟩
  inj := r.inj
  go := g
  tab := t
  ntb := nt
/-- something new, not shared -/
theorem Rep.new (r : Rep K G F H ρ σ) {o : HO} (n : H a = none) : Rep K G F (upd H a o) ρ σ := by
  refine r.step (fun b u e => ?_) (LeR.refl F) (fun i b w => ?_) (r.go.trans (own1 := fun _ => False) ⟨Le.refl F, fun b u e m _ _ => ⟨?_, m⟩, fun b h => ?_⟩ fun _ _ _ _ z => z.elim) (tabs_keep r.tab fun b u e _ => by rw [upd_ne (ne_of_none e n)]; exact e) r.ntb
  · rw [upd_ne (ne_of_none (r.sub b u e) n)]; exact r.sub b u e
  · obtain ⟨h1, ⟨o, h2⟩, _⟩ := r.ownAt w
    exact ⟨upd_ne (ne_of_none h2 n), h1⟩
  · rw [upd_ne (ne_of_none e n)]; exact e
  · by_cases q : b = a
    · subst q; rw [upd_same]; simp
    · rw [upd_ne q]; exact h
/-- something untracked by F and by the slots becomes shared -/
theorem Rep.share (r : Rep K G F H ρ σ) {o : HO} (e : H a = some o) (n : F a = none) (g : G.own a) (w : ∀ i, ¬ OwnAt ρ σ i a) (nb : isTb o = false) : Rep K G (upd F a o) H ρ σ := by
  have sb : Sub F (upd F a o) := fun b u q => by rw [upd_ne (ne_of_none q n)]; exact q
  refine r.step (fun b u q => ?_) (Le.of sb).r (fun i b x => ⟨rfl, ?_⟩) (r.go.trans (own1 := fun b => b = a) ⟨Le.of sb, fun b u h m z _ => ⟨h, by rw [upd_ne z]; exact m⟩, fun b h => h⟩ fun c u h m z => ?_) r.tab (r.ntb.upd nb)
  · by_cases z : b = a
    · subst z; rw [upd_same] at q; cases q; exact e
    · rw [upd_ne z] at q; exact r.sub b u q
  · have : b ≠ a := fun z => w i (z ▸ x)
    rw [upd_ne this]; exact (r.ownAt x).1
  · subst z; exact g
theorem Rep.newF (r : Rep K G F H ρ σ) {o : HO} (n : H a = none) (nb : isTb o = false := by rfl) : Rep K G (upd F a o) (upd H a o) ρ σ := by
  have r1 := r.new (o := o) n
  exact r1.share upd_same (r.sub.none n) (r.freshOwn n) (fun i w => by
    obtain ⟨p, l, d, e1, e2⟩ := w
    exact r.notOwn n i ⟨p, l, d, e1, e2⟩) nb
/-- a tuple that stands is shared -/
theorem Rep.addT (r : Rep K G F H ρ σ) {xs : List V} (e : H a = some (.tup xs)) : ∃ F', Le F F' ∧ Rep K G F' H ρ σ ∧ F' a = some (.tup xs) ∧ ∀ b, b ≠ a → F' b = F b := by
  cases n : F a with
  | some o =>
    have := r.sub a o n
    rw [e] at this; cases this
    exact ⟨F, Le.refl F, r, n, fun _ _ => rfl⟩
  | none =>
    have sb : Sub F (upd F a (.tup xs)) := fun b u q => by rw [upd_ne (ne_of_none q n)]; exact q
    refine ⟨upd F a (.tup xs), Le.of sb, ?_, upd_same, fun b hb => upd_ne hb⟩
    refine r.step (fun b u q => ?_) (Le.of sb).r (fun i b x => ⟨rfl, ?_⟩) (r.go.trans (own1 := fun _ => False) ⟨Le.of sb, fun b u h m z t => ⟨h, ?_⟩, fun b h => h⟩ fun _ _ _ _ z => z.elim) r.tab (r.ntb.upd rfl)
    · by_cases z : b = a
      · subst z; rw [upd_same] at q; cases q; exact e
      · rw [upd_ne z] at q; exact r.sub b u q
    · have : b ≠ a := fun z => by
        subst z
        have := (r.ownAtT x e).1
        cases this
      rw [upd_ne this]; exact (r.ownAt x).1
    · have : b ≠ a := fun z => by subst z; rw [e] at h; cases h; cases t
      rw [upd_ne this]; exact m
theorem leNew (r : Rep K G F H ρ σ) {o : HO} (n : H a = none) : Le F (upd F a o) := Le.of fun b u q => by rw [upd_ne (ne_of_none q (r.sub.none n))]; exact q
theorem ownAt_set {s : Sl} {ov : Option V} {j : Nat} {b : Addr} (w : OwnAt (ρ.set i s) (σ.set i ov) j b) : (j ≠ i ∧ OwnAt ρ σ j b) ∨ (j = i ∧ ∃ p l d, s = .ow p l d ∧ ov = some (.ref b)) := by
  obtain ⟨p, l, d, e1, e2⟩ := w
  by_cases h : i = j
  · subst h
    right
    refine ⟨rfl, p, l, d, ?_, ?_⟩
    · have hi : i < ρ.length := by have := (List.getElem?_eq_some_iff.mp e1).1; simpa using this
      rw [List.getElem?_set_self hi] at e1; exact Option.some.inj e1
    · have hi : i < σ.length := by have := (List.getElem?_eq_some_iff.mp e2).1; simpa using this
      rw [List.getElem?_set_self hi] at e2; exact Option.some.inj e2
  · rw [List.getElem?_set_ne h] at e1 e2
    exact .inl ⟨Ne.symm h, p, l, d, e1, e2⟩
/-- a slot is stored -/
theorem Rep.set (r : Rep K G F H ρ σ) {s : Sl} {ov : Option V} (ok : SlOk K G F H i s ov) (n : ∀ p l d a, s = .ow p l d → ov = some (.ref a) → ∀ j, j ≠ i → ¬ OwnAt ρ σ j a) : Rep K G F H (ρ.set i s) (σ.set i ov) where
  gok := r.gok
  sub := r.sub
  len := by simpa using r.len
  ok := fun j t ow e1 e2 => by
    by_cases h : i = j
    · subst h
      have hi : i < ρ.length := by have := (List.getElem?_eq_some_iff.mp e1).1; simpa using this
      rw [List.getElem?_set_self hi] at e1
      rw [List.getElem?_set_self (by rw [← r.len]; exact hi)] at e2
      cases e1; cases e2; exact ok
    · rw [List.getElem?_set_ne h] at e1 e2
      exact r.ok j t ow e1 e2
  inj := fun j k b w1 w2 => by
    rcases ownAt_set w1 with ⟨h1, w1⟩ | ⟨h1, p, l, d, q1, q2⟩ <;> rcases ownAt_set w2 with ⟨h2, w2⟩ | ⟨h2, p', l', d', q1', q2'⟩
    · exact r.inj j k b w1 w2
    · exact absurd w1 (n _ _ _ b q1' q2' j h1)
    · exact absurd w2 (n _ _ _ b q1 q2 k h2)
    · rw [h1, h2]
  go := r.go
  tab := r.tab
  ntb := r.ntb
theorem set_self {α : Type} {l : List α} {i : Nat} {x : α} (e : l[i]? = some x) : l.set i x = l := by
  apply List.ext_getElem?
  intro j
  by_cases hj : i = j
  · subst hj; rw [List.getElem?_set_self (List.getElem?_eq_some_iff.mp e).1]; exact e.symm
  · rw [List.getElem?_set_ne hj]
/-- .. its value as it is -/
theorem Rep.put (r : Rep K G F H ρ σ) {s : Sl} {ov : Option V} (e : σ[i]? = some ov) (ok : SlOk K G F H i s ov) (n : ∀ p l d a, s = .ow p l d → ov = some (.ref a) → ∀ j, j ≠ i → ¬ OwnAt ρ σ j a) : Rep K G F H (ρ.set i s) σ := by
  have := r.set (i := i) ok n
  rwa [set_self e] at this
/-- what the slot i owns is shared from now on -/
theorem Rep.freeze (r : Rep K G F H ρ σ) (e : ρ[i]? = some (.ow p false d)) :
    ∃ F' v, Le F F' ∧ Rep K G F' H (ρ.set i (.sh p d)) σ ∧ σ[i]? = some (some v) ∧ Rp K F' d v := by
  obtain ⟨ov, ev, a, rfl, n, q, r0', r1, r2, r3, r4⟩ := r.val e
  obtain ⟨o, ho⟩ := q.there
  have sb : Sub F (upd F a o) := fun b u z => by rw [upd_ne (ne_of_none z n)]; exact z
  have rp : Rp K (upd F a o) d (.ref a) := q.rp (Le.of sb).r (by rw [upd_same, ho])
  have r0 : Rep K G F H (ρ.set i .no) σ := r.put ev trivial fun _ _ _ _ z => by cases z
  have w : ∀ j, ¬ OwnAt (ρ.set i .no) σ j a := fun j w => by
    have ev' : σ.set i (some (V.ref a)) = σ := set_self ev
    rw [← ev'] at w
    rcases ownAt_set w with ⟨h1, w⟩ | ⟨h1, p, l, d, q1, _⟩
    · exact h1 (r.inj j i a w ⟨p, false, d, e, ev⟩)
    · cases q1
  have ga : G.own a := ⟨r0', by
    cases p with
    | false => exact .inr (r2 rfl)
    | true => exact .inl (r1 rfl).2⟩
  have rr := r0.share ho n ga w (own_tb q ho)
  refine ⟨upd F a o, .ref a, Le.of sb, ?_, ev, rp⟩
  have := rr.put (s := .sh p d) ev ⟨⟨_, rfl, rp⟩, fun z => (r1 z).1⟩ fun _ _ _ _ z => by cases z
  simpa using this
/-- what the slot i owns is changed -/
theorem Rep.mut {d' : D} {o' : HO} (r : Rep K G F H ρ σ) (e : ρ[i]? = some (.ow p false d)) (ev : σ[i]? = some (some (.ref a))) (q' : Own K F (upd H a o') a d') (nf : ∀ ob u, o' ≠ .frz ob u) : Rep K G F (upd H a o') (ρ.set i (.ow p false d')) σ := by
  have w0 : OwnAt ρ σ i a := ⟨p, false, d, e, ev⟩
  obtain ⟨n, ⟨o, ho⟩, ga⟩ := r.ownAt w0
  have r0 : Rep K G F H (ρ.set i .no) σ := r.put ev trivial fun _ _ _ _ z => by cases z
  have w : ∀ j, ¬ OwnAt (ρ.set i .no) σ j a := fun j w => by
    have ev' : σ.set i (some (V.ref a)) = σ := set_self ev
    rw [← ev'] at w
    rcases ownAt_set w with ⟨h1, w⟩ | ⟨h1, p, l, d, q1, _⟩
    · exact h1 (r.inj j i a w w0)
    · cases q1
  have rr : Rep K G F (upd H a o') (ρ.set i .no) σ := by
    refine r0.step (fun b u z => ?_) (LeR.refl F) (fun j b x => ?_) (r0.go.trans (own1 := fun b => b = a) ⟨Le.refl F, fun b u h m z _ => ⟨by rw [upd_ne z]; exact h, m⟩, fun b h => ?_⟩ fun c u h m z => ?_) (tabs_keep r.tab fun b u h k => by
        have : b ≠ a := fun z => by
          subst z
          have := (r.ownAtT w0 h).2
          rw [k] at this; cases this
        rw [upd_ne this]; exact h) r.ntb
    · have : b ≠ a := fun x => by subst x; rw [n] at z; cases z
      rw [upd_ne this]; exact r.sub b u z
    · have : b ≠ a := fun z => w j (z ▸ x)
      exact ⟨upd_ne this, (r0.ownAt x).1⟩
    · by_cases z : b = a
      · subst z; rw [upd_same]; simp
      · rw [upd_ne z]; exact h
    · subst z; exact ga
  obtain ⟨_, ev2, a', e', _, _, rb, r1, r2, _, _⟩ := r.val e
  rw [ev] at ev2; cases ev2; cases e'
  have := rr.put (s := .ow p false d') ev ⟨a, rfl, n, q', rb, r1, r2, fun _ ob u z => nf ob u (by rw [upd_same] at z; exact Option.some.inj z), fun z => by cases z⟩ (fun _ _ _ b _ z2 j hj x => by
    cases z2; exact w j x)
  simpa using this
end
end Z
namespace Z
open PySem PySem.Spec L2
/-- an expression's value: shared; what stands in a slot; a new list or dict -/
inductive Va where
  | sh (d : D) | at (i : Nat) | nw (d : D)
  deriving Inhabited
inductive R (α : Type) where
  | ok (a : α) (ρ : Ev)
  | exc (c : String) (d : D) (ρ : Ev)
  | bad
abbrev M (α : Type) := Ev → R α
def R.bind {α β : Type} (r : R α) (k : α → M β) : R β := match r with
  | .ok a ρ => k a ρ
  | .exc c d ρ => .exc c d ρ
  | .bad => .bad
def M.bind {α β : Type} (m : M α) (k : α → M β) : M β := fun ρ => (m ρ).bind k
def M.map {α β : Type} (f : α → β) (m : M α) : M β := fun ρ => (m ρ).bind fun a ρ => .ok (f a) ρ
def M.ofO {α : Type} (f : Ev → Option α) : M α := fun ρ => match f ρ with
  | some a => .ok a ρ
  | none => .bad
def Va.get (ρ : Ev) : Va → Option D
  | .sh d => some d
  | .nw _ => none
  | .at i => ρ[i]?.bind Sl.get?
/-- what is new is shared -/
def Va.fz : Va → Va
  | .nw d => .sh d
  | s => s
def M.fz (m : M Va) : M Va := M.map Va.fz m
/-- results of a statement -/
inductive RS where
  | nx (ρ : Ev) | ret (s : Va) (ρ : Ev) | bk (ρ : Ev) | ct (ρ : Ev) | exc (c : String) (d : D) (ρ : Ev) | bad
abbrev MS := Ev → RS
def R.thn {α : Type} (r : R α) (k : α → MS) : RS := match r with
  | .ok a ρ => k a ρ
  | .exc c d ρ => .exc c d ρ
  | .bad => .bad
def RS.seq (r : RS) (k : MS) : RS := match r with
  | .nx ρ => k ρ
  | r => r
def ResV (K : Frag) (G : Gh) (σ : St) (F H : Hp) (ρ : Ev) : Va → V → Prop
  | .sh d, v => Rp K F d v
  | .at i, v => σ[i]? = some (some v)
  | .nw d, v => ∃ a, v = .ref a ∧ F a = none ∧ Own K F H a d ∧ NoFrz H a ∧ (G.fresh a ∧ ¬ G.bar a) ∧ ∀ i, ¬ OwnAt ρ σ i a
abbrev rB (σ : St) (F H : Hp) (ρ : Ev) (a b : Bool) : Prop := a = b
def ResL (K : Frag) (G : Gh) (σ : St) (F H : Hp) (ρ : Ev) : List Va → List V → Prop
  | [], vs => vs = []
  | s :: l, vs => ∃ v r, vs = v :: r ∧ (∀ d, s ≠ .nw d) ∧ ResV K G σ F H ρ s v ∧ ResL K G σ F H ρ l r
/-- an exception: its class by name, its one field -/
def XV (K : Frag) (mg : Str → Option Value) (F : Hp) (c : String) (d : D) (cls : Value) (dd : Option Addr) : Prop :=
  cls = .ref (He.ga K c) ∧ ((d = .x0 c ∧ dd = none) ∨ ∃ x f e v, d = .x1 c f e ∧ dd = some x ∧ F x = some (.xd [(S f, v)]) ∧ Rp K F e v)
section
variable {α β : Type}
def Post (X : Cx) (W : WX) (G : Gh) (F0 : Hp) (σ : St) (Res : Hp → Hp → Ev → α → β → Prop) (r : R α) (Q : β → Hp → Prop) : Prop := match r with
  | .ok s ρ' => ∀ v F' H', Le F0 F' → Rep X.K G F' H' ρ' σ → Res F' H' ρ' s v → Q v H'
  | .exc c d ρ' => ∀ cls dd F' H', Le F0 F' → Rep X.K G F' H' ρ' σ → XV X.K X.mg F' c d cls dd → W cls dd σ H'
  | .bad => False
def tG (X : Cx) (W : WX) (G : Gh) (Res : St → Hp → Hp → Ev → α → β → Prop) (m : M α) : St → Hp → (β → Hp → Prop) → Prop :=
  fun σ H Q => ∃ F ρ, Rep X.K G F H ρ σ ∧ Post X W G F σ (Res σ) (m ρ) Q
end
def EM (X : Cx) (W : WX) (e : Expr) (m : M Va) : Prop := ∀ G, PE X e (tG X W G (ResV X.K G) m)
def TM (X : Cx) (W : WX) (e : Expr) (m : M Bool) : Prop := ∀ G, PT X e (tG X W G rB m)
def WM (X : Cx) (W : WX) (e : Expr) (m : M Bool) : Prop := ∀ G, PW X e (tG X W G rB m)
def AM (X : Cx) (W : WX) (es : List Expr) (m : M (List Va)) : Prop := ∀ G, PA X es (tG X W G (ResL X.K G) m)
def PostS (X : Cx) (W : WX) (G : Gh) (F0 : Hp) (r : RS) (D : Ends) : Prop := match r with
  | .nx ρ' => ∀ σ' F' H', Le F0 F' → Rep X.K G F' H' ρ' σ' → D.nx σ' H'
  | .bk ρ' => ∀ σ' F' H', Le F0 F' → Rep X.K G F' H' ρ' σ' → D.bk σ' H'
  | .ct ρ' => ∀ σ' F' H', Le F0 F' → Rep X.K G F' H' ρ' σ' → D.ct σ' H'
  | .ret s ρ' => ∀ v σ' F' H', Le F0 F' → Rep X.K G F' H' ρ' σ' → ResV X.K G σ' F' H' ρ' s v → (∀ i, s ≠ .at i) → D.rt v H'
  | .exc c d ρ' => ∀ cls dd σ' F' H', Le F0 F' → Rep X.K G F' H' ρ' σ' → XV X.K X.mg F' c d cls dd → W cls dd σ' H'
  | .bad => False
def tS (X : Cx) (W : WX) (G : Gh) (m : MS) : TS := fun D σ H => ∃ F ρ, Rep X.K G F H ρ σ ∧ PostS X W G F (m ρ) D
def SM (X : Cx) (W : WX) (st : Stmt) (m : MS) : Prop := ∀ G, PS X st (tS X W G m)
def BM (X : Cx) (W : WX) (st : List Stmt) (m : MS) : Prop := ∀ G, PSs X st (tS X W G m)
section
variable {X : Cx}
theorem pe_weak {e : Expr} {t t' : TE} (h : PE X e t) (w : ∀ σ H Q, t' σ H Q → t σ H Q) : PE X e t' := ⟨fun pins s σ H Q I q => h.run pins s σ H Q I (w σ H Q q)⟩
theorem pt_weak {e : Expr} {t t' : TT} (h : PT X e t) (w : ∀ σ H Q, t' σ H Q → t σ H Q) : PT X e t' := ⟨fun pins s σ H Q I q => h.run pins s σ H Q I (w σ H Q q)⟩
theorem pw_weak {e : Expr} {t t' : TT} (h : PW X e t) (w : ∀ σ H Q, t' σ H Q → t σ H Q) : PW X e t' := ⟨fun wh pins s σ H Q I q => h.run wh pins s σ H Q I (w σ H Q q)⟩
theorem pa_weak {e : List Expr} {t t' : TA} (h : PA X e t) (w : ∀ σ H Q, t' σ H Q → t σ H Q) : PA X e t' := ⟨fun pos pins s σ H Q I q => h.run pos pins s σ H Q I (w σ H Q q)⟩
theorem ps_weak {e : Stmt} {t t' : TS} (h : PS X e t) (w : ∀ D σ H, t' D σ H → t D σ H) : PS X e t' := ⟨fun pins s σ H D I q => h.run pins s σ H D I (w D σ H q)⟩
theorem pss_weak {e : List Stmt} {t t' : TS} (h : PSs X e t) (w : ∀ D σ H, t' D σ H → t D σ H) : PSs X e t' := ⟨fun pins s σ H D I q => h.run pins s σ H D I (w D σ H q)⟩
end
section
variable {α β γ δ : Type} {X : Cx} {W : WX} {G : Gh} {F F' H : Hp} {σ : St} {ρ : Ev} {Res : Hp → Hp → Ev → α → β → Prop} {Res' : Hp → Hp → Ev → γ → δ → Prop} {r : R α} {Q Q' : β → Hp → Prop}
theorem Post.imp (h : Post X W G F σ Res r Q) (i : ∀ v F' H' ρ' a, r = .ok a ρ' → Le F F' → Rep X.K G F' H' ρ' σ → Res F' H' ρ' a v → Q v H' → Q' v H') : Post X W G F σ Res r Q' := by
  cases r with
  | ok a ρ' => exact fun v F' H' l r q => i v F' H' ρ' a rfl l r q (h v F' H' l r q)
  | exc c d ρ' => exact h
  | bad => exact h
theorem Post.le (l : Le F F') (h : Post X W G F σ Res r Q) : Post X W G F' σ Res r Q := by
  cases r with
  | ok a ρ' => exact fun v F2 H' l2 => h v F2 H' (l.trans l2)
  | exc c d ρ' => exact fun cls dd F2 H' l2 => h cls dd F2 H' (l.trans l2)
  | bad => exact h
/-- the first of two -/
theorem Post.bind {k : α → M γ} {Q : δ → Hp → Prop} {Q1 : β → Hp → Prop} (h : Post X W G F σ Res' (r.bind k) Q)
    (i : ∀ v F1 H1 ρ1 a, r = .ok a ρ1 → Le F F1 → Rep X.K G F1 H1 ρ1 σ → Res F1 H1 ρ1 a v → Post X W G F1 σ Res' (k a ρ1) Q → Q1 v H1) : Post X W G F σ Res r Q1 := by
  cases r with
  | ok a ρ' => exact fun v F' H' l r q => i v F' H' ρ' a rfl l r q (Post.le l h)
  | exc c d ρ' => exact h
  | bad => exact h
/-- a step of the result, the state as it is -/
theorem Post.map {f : α → γ} {Q : δ → Hp → Prop} {Q1 : β → Hp → Prop} (h : Post X W G F σ Res' (r.bind fun a ρ => .ok (f a) ρ) Q)
    (i : ∀ v F1 H1 ρ1 a, r = .ok a ρ1 → Le F F1 → Rep X.K G F1 H1 ρ1 σ → Res F1 H1 ρ1 a v → (∀ v F' H', Le F1 F' → Rep X.K G F' H' ρ1 σ → Res' F' H' ρ1 (f a) v → Q v H') → Q1 v H1) : Post X W G F σ Res r Q1 :=
  h.bind fun v F1 H1 ρ1 a e l r q p => i v F1 H1 ρ1 a e l r q p
end
section
variable {X : Cx} {W : WX} {G : Gh} {F F' H H' : Hp} {σ : St} {ρ : Ev} {s : Va} {v : V} {d : D}
theorem ResV.mono (l : LeR F F') (n : ∀ d, s ≠ .nw d) {ρ' : Ev} (h : ResV X.K G σ F H ρ s v) : ResV X.K G σ F' H' ρ' s v := by
  cases s with
  | sh d => exact Rp.mono l _ _ h
  | «at» i => exact h
  | nw d => exact absurd rfl (n d)
/-- what is new becomes shared -/
theorem ResV.share (r : Rep X.K G F H ρ σ) (h : ResV X.K G σ F H ρ s v) : ∃ F', Le F F' ∧ Rep X.K G F' H ρ σ ∧ ResV X.K G σ F' H ρ s.fz v := by
  cases s with
  | sh d => exact ⟨F, Le.refl F, r, h⟩
  | «at» i => exact ⟨F, Le.refl F, r, h⟩
  | nw d =>
    obtain ⟨a, rfl, n, q, nf, g, w⟩ := h
    obtain ⟨o, ho⟩ := q.there
    have sb : Le F (upd F a o) := Le.of fun b u z => by rw [upd_ne (ne_of_none z n)]; exact z
    exact ⟨upd F a o, sb, r.share ho n ⟨g.2, .inr g.1⟩ w (own_tb q ho), q.rp sb.r (by rw [upd_same, ho])⟩
theorem fz_nn (s : Va) : ∀ d, s.fz ≠ .nw d := by cases s <;> intro d h <;> cases h
theorem EM.fz {e : Expr} {m : M Va} (h : EM X W e m) : EM X W e m.fz := fun G => pe_weak (h G) fun σ H Q ⟨F, ρ, r, p⟩ => ⟨F, ρ, r, p.map fun v F1 H1 ρ1 a _ l r1 q k => by
  obtain ⟨F2, l2, r2, q2⟩ := q.share r1
  exact k v F2 H1 l2 r2 q2⟩
/-- .. and of the reading's post it is known that nothing is new -/
theorem fz_inv {m : M Va} {ρ ρ' : Ev} {a : Va} (h : m.fz ρ = .ok a ρ') : ∀ d, a ≠ .nw d := by
  unfold M.fz M.map at h
  cases e : m ρ with
  | ok b ρ1 =>
    rw [e] at h
    injection h with h1 h2
    subst h1
    exact fz_nn b
  | exc c d ρ1 => rw [e] at h; cases h
  | bad => rw [e] at h; cases h
def Vw (K : Frag) (F H : Hp) : D → V → Prop
  | .lst l, v => ∃ a vs, v = .ref a ∧ H a = some (.lst vs) ∧ Rps K F l vs
  | .dic l, v => ∃ a, v = .ref a ∧ ((∃ kvs, rd H a = some (.dK kvs) ∧ RpK K F l kvs) ∨ (∃ kvs, rd H a = some (.dT kvs) ∧ RpM K F l kvs))
  | .tup l, v => ∃ a vs, v = .ref a ∧ H a = some (.tup vs) ∧ F a = some (.tup vs) ∧ Rps K F l vs
  | d, v => Rp K F d v
theorem rd_sub (s : Sub F H) {a : Addr} {u : HO} (h : rd F a = some u) : rd H a = some u := by
  obtain ⟨o, e⟩ := rd_some h
  rw [← h]; exact (rd_congr (e.trans (s a o e).symm)).symm
theorem Rp.vw {K : Frag} (s : Sub F H) (h : Rp K F d v) : Vw K F H d v := by
  cases d with
  | lst l =>
    simp only [Rp] at h; obtain ⟨a, vs, e, q, r⟩ := h
    exact ⟨a, vs, e, s _ _ q, r⟩
  | tup l =>
    simp only [Rp] at h; obtain ⟨a, vs, e, q, r⟩ := h
    exact ⟨a, vs, e, s _ _ q, q, r⟩
  | dic l =>
    simp only [Rp] at h; obtain ⟨a, e, q⟩ := h
    refine ⟨a, e, ?_⟩
    rcases q with ⟨kvs, q, r⟩ | ⟨kvs, q, r⟩
    · exact .inl ⟨kvs, rd_sub s q, r⟩
    · exact .inr ⟨kvs, rd_sub s q, r⟩
  | _ => exact h
theorem Own.vw {K : Frag} {a : Addr} (h : Own K F H a d) : Vw K F H d (.ref a) := by
  cases d with
  | lst l => obtain ⟨vs, h1, h2⟩ := h; exact ⟨a, vs, rfl, h1, h2⟩
  | dic l => exact ⟨a, rfl, h⟩
  | _ => exact h.elim
theorem Rep.view (r : Rep X.K G F H ρ σ) (h : ResV X.K G σ F H ρ s v) (g : s.get ρ = some d) : Vw X.K F H d v := by
  cases s with
  | sh d' => cases g; exact Rp.vw r.sub h
  | nw d' => cases g
  | «at» i =>
    have g : ρ[i]?.bind Sl.get? = some d := g
    cases e : ρ[i]? with
    | none => rw [e] at g; cases g
    | some t =>
      rw [e] at g
      have g : t.get? = some d := g
      obtain ⟨ov, ev, ok⟩ := r.val e
      have h : σ[i]? = some (some v) := h
      rw [h] at ev; cases ev
      cases t with
      | no => cases g
      | sh p d' => cases g; obtain ⟨⟨w, e1, q⟩, _⟩ := ok; cases e1; exact Rp.vw r.sub q
      | ow p l d' => cases g; obtain ⟨a, e1, n, q, _⟩ := ok; cases e1; exact q.vw
end
def M.var (i : Nat) : M Va := fun ρ => match ρ[i]? with
  | some (.sh _ d) => .ok (.sh d) ρ
  | some (.ow _ _ _) => .ok (.at i) ρ
  | _ => .bad
def M.cst (d : D) : M Va := fun ρ => .ok (.sh d) ρ
section
variable {X : Cx} {W : WX}
theorem em_var (i : Nat) {x : Str} {pos : Pos} (hN : X.N[i]? = some x := by rfl) (hv : Vis X.env.scope x := by first | exact Or.inl rfl | exact Or.inr (Or.inl rfl) | exact Or.inr (Or.inr rfl)) (hd : (x == ("__debug__" : Str)) = false := by decide)
    (hcd : (x == ("__classdict__" : Str)) = false := by decide) : EM X W (.Name x pos) (M.var i) := fun G => pe_weak (pe_var hN hv hd hcd) fun σ H Q ⟨F, ρ, r, p⟩ => by
  unfold M.var at p
  split at p
  · rename_i pp d e
    obtain ⟨ov, ev, ⟨v, rfl, q⟩, _⟩ := r.val e
    exact ⟨v, ev, p v F H (Le.refl F) r q⟩
  · rename_i pp l d e
    obtain ⟨ov, ev, a, rfl, _⟩ := r.val e
    exact ⟨_, ev, p _ F H (Le.refl F) r ev⟩
  · exact p.elim
theorem em_of {e : Expr} {v : V} {d : D} (h : PE X e (tC v)) (q : ∀ F, Rp X.K F d v) : EM X W e (M.cst d) := fun G => pe_weak h fun σ H Q ⟨F, ρ, r, p⟩ => p v F H (Le.refl F) r (q F)
theorem em_int {i : Int} {j pos} : EM X W (.Constant (.int i) j pos) (M.cst (.int i)) := em_of pe_int fun F => by simp only [Rp]
theorem em_bl {b : Bool} {j pos} : EM X W (.Constant (.bool b) j pos) (M.cst (.bl b)) := em_of pe_bl fun F => by simp only [Rp]
theorem em_non {j pos} : EM X W (.Constant .none j pos) (M.cst .non) := em_of pe_non fun F => by simp only [Rp]
theorem em_str {l : List Nat} {x : Str} {j pos} (h : x = S l := by rfl) : EM X W (.Constant (.str x) j pos) (M.cst (.str l)) := em_of pe_str fun F => by simp only [Rp]; rw [h]
/-- a module's constant text or int -/
theorem em_glob {x : Str} {v : V} {u : Value} {d : D} {pos : Pos} (hg : Gl X x) (hm : X.mg x = some u) (r : RelV v u) (q : ∀ F, Rp X.K F d v) (hd : (x == ("__debug__" : Str)) = false := by decide) : EM X W (.Name x pos) (M.cst d) := em_of (pe_glob hg hm r hd) q
theorem ofO_post {α β : Type} {G : Gh} {F : Hp} {σ : St} {ρ : Ev} {Res : Hp → Hp → Ev → α → β → Prop} {f : Ev → Option α} {Q : β → Hp → Prop} (p : Post X W G F σ Res (M.ofO f ρ) Q) :
    ∃ s, f ρ = some s ∧ ∀ v F' H', Le F F' → Rep X.K G F' H' ρ σ → Res F' H' ρ s v → Q v H' := by
  unfold M.ofO at p
  cases e : f ρ with
  | none => rw [e] at p; exact p.elim
  | some s => rw [e] at p; exact ⟨s, rfl, p⟩
theorem bind_some {α β : Type} {o : Option α} {k : α → Option β} {b : β} (h : o.bind k = some b) : ∃ a, o = some a ∧ k a = some b := by
  cases o with
  | none => cases h
  | some a => exact ⟨a, rfl, h⟩
def OpS (X : Cx) (r : R2) (o : D → D → Option Va) : Prop := ∀ (G : Gh) (F H : Hp) (ρ : Ev) (σ : St) (x y : V) (dx dy : D) (s : Va) (Q : VK), Rep X.K G F H ρ σ → Vw X.K F H dx x → Vw X.K F H dy y → o dx dy = some s →
  (∀ v F' H', Le F F' → Rep X.K G F' H' ρ σ → ResV X.K G σ F' H' ρ s v → Q v H') → r x y H Q
def M.use2 (o : D → D → Option Va) (a b : Va) : M Va := M.ofO fun ρ => (a.get ρ).bind fun x => (b.get ρ).bind fun y => o x y
def M.bin (o : D → D → Option Va) (ma mb : M Va) : M Va := ma.fz.bind fun a => mb.fz.bind fun b => M.use2 o a b
theorem use2_post {G : Gh} {F H : Hp} {σ : St} {ρ : Ev} {r : R2} {o : D → D → Option Va} (hs : OpS X r o) {a b : Va} {x y : V} {Q : VK} (rp : Rep X.K G F H ρ σ) (qa : ResV X.K G σ F H ρ a x) (qb : ResV X.K G σ F H ρ b y)
    (p : Post X W G F σ (ResV X.K G σ) (M.use2 o a b ρ) Q) : r x y H Q := by
  obtain ⟨s, e, p⟩ := ofO_post p
  obtain ⟨dx, ga, e⟩ := bind_some e
  obtain ⟨dy, gb, e⟩ := bind_some e
  exact hs G F H ρ σ x y dx dy s Q rp (rp.view qa ga) (rp.view qb gb) e p
/-- two operands -/
theorem bin_read {G : Gh} {ta tb : TE} {a b : Expr} {ma mb : M Va} {r : R2} {o : D → D → Option Va} (hs : OpS X r o) (σ : St) (H : Hp) (Q : VK) (h : tG X W G (ResV X.K G) (M.bin o ma mb) σ H Q) :
    tOp r (tG X W G (ResV X.K G) ma.fz) (tG X W G (ResV X.K G) mb.fz) σ H Q := by
  obtain ⟨F, ρ, rp, p⟩ := h
  refine ⟨F, ρ, rp, Post.bind p fun x F1 H1 ρ1 s e1 l1 r1 q1 p1 => ?_⟩
  refine ⟨F1, ρ1, r1, Post.bind p1 fun y F2 H2 ρ2 t e2 l2 r2 q2 p2 => ?_⟩
  exact use2_post hs r2 (q1.mono l2.r (fz_inv e1)) q2 p2
theorem em_op {a b : Expr} {ma mb : M Va} {op : Operator} {r : R2} {o : D → D → Option Va} {pos : Pos} (ho : OpR X (binaryOp op) r) (hs : OpS X r o) (ha : EM X W a ma) (hb : EM X W b mb) : EM X W (.BinOp a op b pos) (M.bin o ma mb) :=
  fun G => pe_weak (pe_op ho (ha.fz G) (hb.fz G)) fun σ H Q h => bin_read (a := a) (b := b) (ta := fun _ _ _ => True) (tb := fun _ _ _ => True) hs σ H Q h
theorem em_cmp {a b : Expr} {ma mb : M Va} {op : CmpOp} {r : R2} {o : D → D → Option Va} {pos : Pos} (ho : OpR X (compareOp op) r) (hs : OpS X r o) (ha : EM X W a ma) (hb : EM X W b mb) (hm : behindInMarks op b = false := by first | exact nomark _ | rfl) : EM X W (.Compare a [op] [b] pos) (M.bin o ma mb) :=
  fun G => pe_weak (pe_cmpR ho (ha.fz G) (hb.fz G) hm) fun σ H Q h => bin_read (a := a) (b := b) (ta := fun _ _ _ => True) (tb := fun _ _ _ => True) hs σ H Q h
theorem em_ix {a b : Expr} {ma mb : M Va} {r : R2} {o : D → D → Option Va} {pos : Pos} (hr : IxR X r) (hs : OpS X r o) (ha : EM X W a ma) (hb : EM X W b mb) (hp : PlainIx b := by exact fun _ _ => rfl) : EM X W (.Subscript a b pos) (M.bin o ma mb) :=
  fun G => pe_weak (pe_ix hr (ha.fz G) (hb.fz G) hp) fun σ H Q h => bin_read (a := a) (b := b) (ta := fun _ _ _ => True) (tb := fun _ _ _ => True) hs σ H Q h
def M.use1 (o : D → Option Va) (a : Va) : M Va := M.ofO fun ρ => (a.get ρ).bind o
def M.un (o : D → Option Va) (ma : M Va) : M Va := ma.fz.bind fun a => M.use1 o a
def M.nil : M (List Va) := fun ρ => .ok [] ρ
def M.cons (m : M Va) (ms : M (List Va)) : M (List Va) := m.fz.bind fun a => ms.bind fun l => fun ρ => .ok (a :: l) ρ
theorem am_nil : AM X W [] M.nil := fun G => pa_weak pa_nil fun σ H Q ⟨F, ρ, r, p⟩ => p [] F H (Le.refl F) r rfl
theorem am_cons {e : Expr} {es : List Expr} {m : M Va} {ms : M (List Va)} (ha : EM X W e m) (hr : AM X W es ms) (hs : starEach (e :: es) X.env = (false, eval e X.env) :: starEach es X.env := by rfl) : AM X W (e :: es) (M.cons m ms) :=
  fun G => pa_weak (pa_cons (ha.fz G) (hr G) hs) fun σ H Q ⟨F, ρ, rp, p⟩ => ⟨F, ρ, rp, Post.bind p fun x F1 H1 ρ1 s e1 l1 r1 q1 p1 => ⟨F1, ρ1, r1, Post.bind p1 fun xs F2 H2 ρ2 t e2 l2 r2 q2 p2 =>
    p2 (x :: xs) F2 H2 (Le.refl F2) r2 ⟨x, xs, rfl, fz_inv e1, q1.mono l2.r (fz_inv e1), q2⟩⟩⟩
/-- the items as shared data: what stands in slots is shared from now on -/
def M.shr : Va → M D
  | .sh d => fun ρ => .ok d ρ
  | .nw d => fun ρ => .ok d ρ
  | .at i => fun ρ => match ρ[i]? with
    | some (.sh _ d) => .ok d ρ
    | some (.ow p false d) => .ok d (ρ.set i (.sh p d))
    | _ => .bad
def M.shrs : List Va → M (List D)
  | [] => fun ρ => .ok [] ρ
  | a :: l => (M.shr a).bind fun d => (M.shrs l).bind fun ds => fun ρ => .ok (d :: ds) ρ
/-- (no judgement: the ghost's step) -/
theorem shr_step {G : Gh} {F H : Hp} {σ : St} {ρ ρ' : Ev} {s : Va} {v : V} {d : D} (r : Rep X.K G F H ρ σ) (h : ResV X.K G σ F H ρ s v) (e : M.shr s ρ = .ok d ρ') : ∃ F', Le F F' ∧ Rep X.K G F' H ρ' σ ∧ Rp X.K F' d v := by
  cases s with
  | sh d' =>
    injection e with e1 e2; subst e1; subst e2
    exact ⟨F, Le.refl F, r, h⟩
  | nw d' =>
    injection e with e1 e2; subst e1; subst e2
    obtain ⟨F', l, r', q⟩ := h.share r
    exact ⟨F', l, r', q⟩
  | «at» i =>
    unfold M.shr at e
    have h : σ[i]? = some (some v) := h
    simp only at e
    split at e
    · rename_i p d' q
      injection e with e1 e2; subst e1; subst e2
      obtain ⟨ov, ev, ⟨w, rfl, q2⟩, _⟩ := r.val q
      rw [h] at ev; cases ev
      exact ⟨F, Le.refl F, r, q2⟩
    · rename_i p d' q
      injection e with e1 e2; subst e1; subst e2
      obtain ⟨F', w, l, r', ev, q2⟩ := r.freeze q
      rw [h] at ev; cases ev
      exact ⟨F', l, r', q2⟩
    · cases e
theorem shr_noexc {s : Va} {ρ ρ' : Ev} {c : String} {d : D} : M.shr s ρ ≠ .exc c d ρ' := by
  cases s with
  | sh d => intro h; cases h
  | nw d => intro h; cases h
  | «at» i => intro h; unfold M.shr at h; simp only at h; split at h <;> cases h
theorem ResL.mono {G : Gh} {σ : St} {F F' H H' : Hp} {ρ ρ' : Ev} (l : LeR F F') : ∀ {as : List Va} {vs : List V}, ResL X.K G σ F H ρ as vs → ResL X.K G σ F' H' ρ' as vs
  | [], _, h => h
  | a :: r, _, ⟨v, q, e, n, h1, h2⟩ => ⟨v, q, e, n, h1.mono l n, ResL.mono l h2⟩
theorem shrs_step {G : Gh} {H : Hp} {σ : St} : ∀ {as : List Va} {vs : List V} {F : Hp} {ρ ρ' : Ev} {ds : List D}, Rep X.K G F H ρ σ → ResL X.K G σ F H ρ as vs → M.shrs as ρ = .ok ds ρ' → ∃ F', Le F F' ∧ Rep X.K G F' H ρ' σ ∧ Rps X.K F' ds vs
  | [], _, F, ρ, ρ', ds, r, h, e => by
    injection e with e1 e2; subst e1; subst e2
    have h : _ = [] := h
    subst h
    exact ⟨F, Le.refl F, r, Rps.nil⟩
  | a :: l, _, F, ρ, ρ', ds, r, ⟨v, q, ev, n, h1, h2⟩, e => by
    subst ev
    unfold M.shrs M.bind at e
    cases e1 : M.shr a ρ with
    | bad => rw [e1] at e; cases e
    | exc c d ρ1 => exact absurd e1 shr_noexc
    | ok d ρ1 =>
      rw [e1] at e
      obtain ⟨F1, l1, r1, q1⟩ := shr_step r h1 e1
      simp only [R.bind, M.bind] at e
      cases e2 : M.shrs l ρ1 with
      | bad => rw [e2] at e; cases e
      | exc c d ρ1 => rw [e2] at e; cases e
      | ok ds' ρ2 =>
        rw [e2] at e
        injection e with e3 e4; subst e3; subst e4
        obtain ⟨F2, l2, r2, q2⟩ := shrs_step r1 (ResL.mono l1.r h2) e2
        exact ⟨F2, l1.trans l2, r2, Rps.cons (Rp.mono l2.r _ _ q1) q2⟩
theorem shrs_noexc : ∀ {l : List Va} {ρ ρ' : Ev} {c : String} {d : D}, M.shrs l ρ ≠ .exc c d ρ'
  | [], _, _, _, _ => fun h => by cases h
  | a :: l, ρ, ρ', c, d => fun h => by
    unfold M.shrs M.bind at h
    cases e1 : M.shr a ρ with
    | bad => rw [e1] at h; cases h
    | exc c d ρ1 => exact absurd e1 shr_noexc
    | ok d ρ1 =>
      rw [e1] at h
      simp only [R.bind, M.bind] at h
      cases e2 : M.shrs l ρ1 with
      | bad => rw [e2] at h; cases h
      | exc c d ρ1 => exact absurd e2 shrs_noexc
      | ok ds' ρ2 => rw [e2] at h; cases h
/-- a new list, a new tuple -/
theorem new_lst {G : Gh} {F H : Hp} {σ : St} {ρ : Ev} {l : List D} {vs : List V} {p : Addr} (r : Rep X.K G F H ρ σ) (q : Rps X.K F l vs) (n : H p = none) : Rep X.K G F (upd H p (.lst vs)) ρ σ ∧ ResV X.K G σ F (upd H p (.lst vs)) ρ (.nw (.lst l)) (.ref p) :=
  ⟨r.new n, p, rfl, r.sub.none n, ⟨vs, upd_same, q⟩, (fun ob u z => by rw [upd_same] at z; cases z), r.fresh n, fun i w => r.notOwn n i w⟩
theorem new_tup {G : Gh} {F H : Hp} {σ : St} {ρ : Ev} {l : List D} {vs : List V} {p : Addr} (r : Rep X.K G F H ρ σ) (q : Rps X.K F l vs) (n : H p = none) :
    Le F (upd F p (.tup vs)) ∧ Rep X.K G (upd F p (.tup vs)) (upd H p (.tup vs)) ρ σ ∧ ResV X.K G σ (upd F p (.tup vs)) (upd H p (.tup vs)) ρ (.sh (.tup l)) (.ref p) :=
  ⟨leNew r n, r.newF n, by simp only [ResV, Rp]; exact ⟨p, vs, rfl, upd_same, Rps.mono (leNew r n).r _ _ q⟩⟩
/-- sizes: lists and texts are kept below this -/
def big : Nat := 16777216
theorem big_le {n : Nat} (h : n ≤ big) : n ≤ sizeLine := Nat.le_trans h (by rw [sizeLine_eq]; decide)
def M.tupOf (ms : M (List Va)) : M Va := ms.bind fun l => (M.shrs l).bind fun ds => fun ρ => if ds.length ≤ big then .ok (.sh (.tup ds)) ρ else .bad
def M.lstOf (ms : M (List Va)) : M Va := ms.bind fun l => (M.shrs l).bind fun ds => fun ρ => if ds.length ≤ big then .ok (.nw (.lst ds)) ρ else .bad
theorem em_tup {es : List Expr} {ms : M (List Va)} {x1 pos} (h : AM X W es ms) : EM X W (.Tuple es x1 pos) (M.tupOf ms) := fun G => pe_weak (pe_tup (h G)) fun σ H Q ⟨F, ρ, rp, p⟩ => ⟨F, ρ, rp, Post.bind p fun vs F1 H1 ρ1 l e1 l1 r1 q1 p1 => by
  unfold M.bind at p1
  cases e2 : M.shrs l ρ1 with
  | bad => rw [e2] at p1; exact p1.elim
  | exc c d ρ2 => exact absurd e2 shrs_noexc
  | ok ds ρ2 =>
    rw [e2] at p1
    simp only [R.bind] at p1
    obtain ⟨F2, l2, r2, q2⟩ := shrs_step r1 q1 e2
    split at p1
    · rename_i hz
      refine ⟨by rw [← q2.length]; exact big_le hz, fun a n => ?_⟩
      obtain ⟨x1, x2, x3⟩ := new_tup r2 q2 n
      exact p1 _ _ _ (l2.trans x1) x2 x3
    · exact p1.elim⟩
theorem em_lst {es : List Expr} {ms : M (List Va)} {pos} (h : AM X W es ms) : EM X W (.List es pos) (M.lstOf ms) := fun G => pe_weak (pe_lst (h G)) fun σ H Q ⟨F, ρ, rp, p⟩ => ⟨F, ρ, rp, Post.bind p fun vs F1 H1 ρ1 l e1 l1 r1 q1 p1 => by
  unfold M.bind at p1
  cases e2 : M.shrs l ρ1 with
  | bad => rw [e2] at p1; exact p1.elim
  | exc c d ρ2 => exact absurd e2 shrs_noexc
  | ok ds ρ2 =>
    rw [e2] at p1
    simp only [R.bind] at p1
    obtain ⟨F2, l2, r2, q2⟩ := shrs_step r1 q1 e2
    split at p1
    · rename_i hz
      refine ⟨by rw [← q2.length]; exact big_le hz, fun a n => ?_⟩
      obtain ⟨x2, x3⟩ := new_lst r2 q2 n
      exact p1 _ _ _ l2 x2 x3
    · exact p1.elim⟩
def asB : D → Option Bool
  | .bl b => some b
  | _ => none
theorem asB_eq {d : D} {b : Bool} (h : asB d = some b) : d = .bl b := by cases d <;> first | (injection h with h; rw [h]) | cases h
def M.toB (m : M Va) : M Bool := m.bind fun a => M.ofO fun ρ => (a.get ρ).bind asB
theorem toB_read {G : Gh} {F H : Hp} {σ : St} {ρ : Ev} {a : Va} {v : V} {Q : Bool → Hp → Prop} (rp : Rep X.K G F H ρ σ) (q : ResV X.K G σ F H ρ a v)
    (p : Post X W G F σ (rB σ) (M.ofO (fun ρ => (a.get ρ).bind asB) ρ) Q) : ∃ k, v = .bl k ∧ Q k H := by
  obtain ⟨s, e, p⟩ := ofO_post p
  obtain ⟨d, g, e⟩ := bind_some e
  cases asB_eq e
  exact ⟨_, rp.view q g, p _ F H (Le.refl F) rp rfl⟩
theorem tm_val {e : Expr} {m : M Va} (h : EM X W e m) (he : ∀ whole, isTrue e X.env whole = (do let v ← whole; standAt e.pos; holding [v] (truthy v)) := by intro _; rfl) : TM X W e (M.toB m) := fun G => pt_weak (pt_val (h G) he) fun σ H Q ⟨F, ρ, rp, p⟩ =>
  ⟨F, ρ, rp, Post.bind p fun v F1 H1 ρ1 a e1 l1 r1 q1 p1 => toB_read r1 q1 p1⟩
theorem tm_cmp {a b : Expr} {ma mb : M Va} {op : CmpOp} {r : R2} {o : D → D → Option Va} {pos : Pos} (ho : OpR X (compareOp op) r) (hs : OpS X r o) (ha : EM X W a ma) (hb : EM X W b mb) (hm : behindInMarks op b = false := by first | exact nomark _ | rfl) : TM X W (.Compare a [op] [b] pos) (M.toB (M.bin o ma mb)) :=
  fun G => pt_weak (pt_cmpR ho (ha.fz G) (hb.fz G) hm) fun σ H Q ⟨F, ρ, rp, p⟩ =>
    bin_read (a := a) (b := b) (ta := fun _ _ _ => True) (tb := fun _ _ _ => True) hs σ H _ ⟨F, ρ, rp, Post.bind p fun v F1 H1 ρ1 a e1 l1 r1 q1 p1 => toB_read r1 q1 p1⟩
def M.and (a b : M Bool) : M Bool := a.bind fun c => if c then b else fun ρ => .ok false ρ
def M.or (a b : M Bool) : M Bool := a.bind fun c => if c then fun ρ => .ok true ρ else b
def M.not (a : M Bool) : M Bool := a.bind fun c => fun ρ => .ok (!c) ρ
theorem tm_of {e : Expr} {m : M Bool} (h : WM X W e m) : TM X W e m := fun G => (h G).pt
theorem wm_and1 {a : Expr} {m : M Bool} {pos} (h : TM X W a m) : WM X W (.BoolOp .And [a] pos) m := fun G => pw_and1 (h G)
theorem wm_or1 {a : Expr} {m : M Bool} {pos} (h : TM X W a m) : WM X W (.BoolOp .Or [a] pos) m := fun G => pw_or1 (h G)
theorem wm_and {a b : Expr} {rest : List Expr} {m n : M Bool} {pos} (h : TM X W a m) (k : WM X W (.BoolOp .And (b :: rest) pos) n) : WM X W (.BoolOp .And (a :: b :: rest) pos) (M.and m n) := fun G => pw_weak (pw_and (h G) (k G)) fun σ H Q ⟨F, ρ, rp, p⟩ =>
  ⟨F, ρ, rp, Post.bind p fun c F1 H1 ρ1 a e1 l1 r1 q1 p1 => by
    have q1 : a = c := q1
    subst q1
    cases a with
    | true => exact ⟨F1, ρ1, r1, p1⟩
    | false => exact p1 false F1 H1 (Le.refl _) r1 rfl⟩
theorem wm_or {a b : Expr} {rest : List Expr} {m n : M Bool} {pos} (h : TM X W a m) (k : WM X W (.BoolOp .Or (b :: rest) pos) n) : WM X W (.BoolOp .Or (a :: b :: rest) pos) (M.or m n) := fun G => pw_weak (pw_or (h G) (k G)) fun σ H Q ⟨F, ρ, rp, p⟩ =>
  ⟨F, ρ, rp, Post.bind p fun c F1 H1 ρ1 a e1 l1 r1 q1 p1 => by
    have q1 : a = c := q1
    subst q1
    cases a with
    | true => exact p1 true F1 H1 (Le.refl _) r1 rfl
    | false => exact ⟨F1, ρ1, r1, p1⟩⟩
theorem tm_not {a : Expr} {m : M Bool} {pos} (h : TM X W a m) : TM X W (.UnaryOp .Not a pos) (M.not m) := fun G => pt_weak (pt_not (h G)) fun σ H Q ⟨F, ρ, rp, p⟩ =>
  ⟨F, ρ, rp, Post.bind p fun c F1 H1 ρ1 a e1 l1 r1 q1 p1 => by
    have q1 : a = c := q1
    subst q1
    exact p1 _ F1 H1 (Le.refl _) r1 rfl⟩
/-- as values (all but the last True or False) -/
def M.andV (a : M Va) (b : M Va) : M Va := (M.toB a).bind fun c => if c then b else fun ρ => .ok (.sh (.bl false)) ρ
def M.orV (a : M Va) (b : M Va) : M Va := (M.toB a).bind fun c => if c then fun ρ => .ok (.sh (.bl true)) ρ else b
def M.notV (a : M Va) : M Va := (M.toB a).bind fun c => fun ρ => .ok (.sh (.bl (!c))) ρ
theorem toB_bind {G : Gh} {F H : Hp} {σ : St} {ρ : Ev} {m : M Va} {k : Bool → M Va} {Q : VK} {Q1 : VK} (rp : Rep X.K G F H ρ σ) (p : Post X W G F σ (ResV X.K G σ) ((M.toB m).bind k ρ) Q)
    (i : ∀ (c : Bool) F1 H1 ρ1, Rep X.K G F1 H1 ρ1 σ → Post X W G F1 σ (ResV X.K G σ) (k c ρ1) Q → Q1 (.bl c) H1) : Post X W G F σ (ResV X.K G σ) (m ρ) Q1 := by
  unfold M.toB M.bind at p
  cases e : m ρ with
  | bad => rw [e] at p; exact p.elim
  | exc c d ρ' => rw [e] at p; exact p
  | ok a ρ1 =>
    rw [e] at p
    intro v F1 H1 l1 r1 q1
    simp only [R.bind] at p
    cases e2 : M.ofO (fun ρ => (a.get ρ).bind asB) ρ1 with
    | bad => rw [e2] at p; exact p.elim
    | exc c d ρ' => unfold M.ofO at e2; split at e2 <;> cases e2
    | ok b ρ2 =>
      rw [e2] at p
      unfold M.ofO at e2
      split at e2
      · rename_i b' g
        injection e2 with e3 e4; subst e3; subst e4
        obtain ⟨d, g, e⟩ := bind_some g
        cases asB_eq e
        have : v = .bl _ := r1.view q1 g
        subst this
        exact i _ F1 H1 ρ1 r1 (p.le l1)
      · cases e2
theorem em_andV {a b : Expr} {rest : List Expr} {m n : M Va} {pos} (h : EM X W a m) (k : EM X W (.BoolOp .And (b :: rest) pos) n) : EM X W (.BoolOp .And (a :: b :: rest) pos) (M.andV m n) := fun G => pe_weak (pe_and (h G) (k G)) fun σ H Q ⟨F, ρ, rp, p⟩ =>
  ⟨F, ρ, rp, toB_bind rp p fun c F1 H1 ρ1 r1 p1 => ⟨c, rfl, by
    cases c with
    | true => rw [if_pos rfl]; exact ⟨F1, ρ1, r1, p1⟩
    | false => rw [if_neg Bool.false_ne_true]; exact p1 _ F1 H1 (Le.refl _) r1 (by simp only [ResV, Rp])⟩⟩
theorem em_oneV {o : BoolOp} {a : Expr} {m : M Va} {pos} (h : EM X W a m) : EM X W (.BoolOp o [a] pos) m := fun G => pe_one (h G)
def M.ite (c : M Bool) (a b : M Va) : M Va := c.bind fun k => if k then a else b
end
end Z
namespace Z
open PySem PySem.Spec L2
section
variable {X : Cx} {W : WX} {K : Frag} {G : Gh} {F H : Hp} {σ : St} {ρ : Ev} {v x y : V} {d : D}
theorem vw_non (h : Vw K F H .non v) : v = .non := by simpa only [Vw, Rp] using h
theorem vw_bl {b : Bool} (h : Vw K F H (.bl b) v) : v = .bl b := by simpa only [Vw, Rp] using h
theorem vw_int {i : Int} (h : Vw K F H (.int i) v) : v = .int i := by simpa only [Vw, Rp] using h
theorem vw_str {l : List Nat} (h : Vw K F H (.str l) v) : v = .str (S l) := by simpa only [Vw, Rp] using h
theorem vw_lst {l : List D} (h : Vw K F H (.lst l) v) : ∃ a vs, v = .ref a ∧ H a = some (.lst vs) ∧ Rps K F l vs := by simpa only [Vw] using h
theorem vw_tup {l : List D} (h : Vw K F H (.tup l) v) : ∃ a vs, v = .ref a ∧ H a = some (.tup vs) ∧ F a = some (.tup vs) ∧ Rps K F l vs := by simpa only [Vw] using h
theorem vw_scr (s : Sub F H) {l : List D} (h : Vw K F H (.scr l) v) : ∃ a vs, v = .ref a ∧ SqL K H a vs ∧ Rps K F l vs := by
  simp only [Vw, Rp] at h
  obtain ⟨a, vs, e, q, r⟩ := h
  exact ⟨a, vs, e, sq_sub s q, r⟩
theorem rv_int {i : Int} : ResV K G σ F H ρ (.sh (.int i)) (.int i) := by simp only [ResV, Rp]
theorem rv_bl {i : Bool} : ResV K G σ F H ρ (.sh (.bl i)) (.bl i) := by simp only [ResV, Rp]
theorem rv_str {i : List Nat} : ResV K G σ F H ρ (.sh (.str i)) (.str (S i)) := by simp only [ResV, Rp]
theorem rv_tup {a : Addr} {vs : List V} {l : List D} (h : F a = some (.tup vs)) (r : Rps K F l vs) : ResV K G σ F H ρ (.sh (.tup l)) (.ref a) := by simp only [ResV, Rp]; exact ⟨a, vs, rfl, h, r⟩
theorem S_app (a b : List Nat) : S a ++ S b = S (a ++ b) := by
  show Str.mk (a.toArray ++ b.toArray) = Str.mk (a ++ b).toArray
  simp
theorem Rps.nil_of {l : List D} (h : Rps K F l []) : l = [] := List.eq_nil_of_length_eq_zero h.length
def opAdd : D → D → Option Va
  | .int i, .int j => some (.sh (.int (i + j)))
  | .str a, .str b => if a.length + b.length ≤ big then some (.sh (.str (a ++ b))) else none
  | .lst a, .lst b => if a.length + b.length ≤ big then some (.nw (.lst (a ++ b))) else none
  | .tup a, .tup b => if a.length + b.length ≤ big then some (.sh (.tup (a ++ b))) else none
  | _, _ => none
/-- an operation of the language is computed by o -/
def BO (X : Cx) (f : Value → Value → Sem Value) (o : D → D → Option Va) : Prop := ∃ r, OpR X f r ∧ OpS X r o
theorem bo_add : BO X (binaryOp .Add) opAdd := ⟨_, OpR.or op_add (OpR.or op_add_str (OpR.or op_cat op_catA)), fun G F H ρ σ x y dx dy s Q r vx vy e k => by
  unfold opAdd at e
  split at e
  · cases e; rw [vw_int vx, vw_int vy]
    exact .inl ⟨_, _, rfl, rfl, k _ F H (Le.refl F) r rv_int⟩
  · split at e
    · rename_i z
      cases e; rw [vw_str vx, vw_str vy]
      refine .inr (.inl ⟨_, _, rfl, rfl, by rw [S_len, S_len]; exact big_le z, ?_⟩)
      rw [S_app]
      exact k _ F H (Le.refl F) r rv_str
    · cases e
  · split at e
    · rename_i z
      cases e
      obtain ⟨a, vs, rfl, h1, q1⟩ := vw_lst vx
      obtain ⟨b, ws, rfl, h2, q2⟩ := vw_lst vy
      refine .inr (.inr (.inl ⟨_, _, _, _, rfl, rfl, h1, h2, by rw [← q1.length, ← q2.length]; exact big_le z, fun p n => ?_⟩))
      obtain ⟨r', q'⟩ := new_lst r (q1.append q2) n
      exact k _ F _ (Le.refl F) r' q'
    · cases e
  · split at e
    · rename_i z
      cases e
      obtain ⟨a, vs, rfl, h1, f1, q1⟩ := vw_tup vx
      obtain ⟨b, ws, rfl, h2, f2, q2⟩ := vw_tup vy
      refine .inr (.inr (.inr ⟨_, _, _, _, rfl, rfl, SqT.of h1, SqT.of h2, by rw [← q1.length, ← q2.length]; exact big_le z, fun e0 => ?_, fun _ e0 => ?_, fun _ _ p n => ?_⟩))
      · subst e0
        have hl := q1.nil_of
        subst hl
        exact k _ F H (Le.refl F) r (rv_tup f2 (by simpa using q2))
      · subst e0
        have hl := q2.nil_of
        subst hl
        exact k _ F H (Le.refl F) r (rv_tup f1 (by simpa using q1))
      · obtain ⟨l1, r', q'⟩ := new_tup r (q1.append q2) n
        exact k _ _ _ l1 r' q'
    · cases e
  · cases e⟩
def opInt (c : Int → Int → Bool) (g : Int → Int → Int) : D → D → Option Va
  | .int i, .int j => if c i j then some (.sh (.int (g i j))) else none
  | _, _ => none
theorem int_s {C : Int → Int → Prop} {c : Int → Int → Bool} {g : Int → Int → Int} (hc : ∀ i j, c i j = true → C i j) : OpS X (rI C fun i j => .int (g i j)) (opInt c g) := fun G F H ρ σ x y dx dy s Q r vx vy e k => by
  unfold opInt at e
  split at e
  · split at e
    · rename_i z
      cases e; rw [vw_int vx, vw_int vy]
      exact ⟨_, _, rfl, rfl, hc _ _ z, k _ F H (Le.refl F) r rv_int⟩
    · cases e
  · cases e
def opFdiv := opInt (fun _ j => decide (0 < j ∧ j < 1073741824)) fun i j => i / j
def opMod := opInt (fun _ j => decide (0 < j)) fun i j => i % j
def opPow := opInt (fun i j => decide (0 ≤ j ∧ j ≤ 1000 ∧ i.natAbs < 18446744073709551616)) fun i j => i ^ j.toNat
def small64 (i : Int) : Bool := decide (-18446744073709551616 < i ∧ i < 18446744073709551616)
theorem small64_of {i : Int} (h : small64 i = true) : -(2 ^ 64) < i ∧ i < 2 ^ 64 := by
  have := of_decide_eq_true h
  have e : (2 : Int) ^ 64 = 18446744073709551616 := by decide
  rw [e]; exact this
def opMul : D → D → Option Va
  | .int i, .int j => if small64 i || small64 j then some (.sh (.int (i * j))) else none
  | .lst l, .int k => if 0 ≤ k ∧ k ≤ 1000 ∧ l.length ≤ 1000 then some (.nw (.lst (List.replicate k.toNat l).flatten)) else none
  | .tup l, .int k => if 2 ≤ k ∧ k ≤ 1000 ∧ l.length ≤ 1000 ∧ l ≠ [] then some (.sh (.tup (List.replicate k.toNat l).flatten)) else none
  | .str t, .int k => if k = 0 then some (.sh (.str [])) else if k = 1 then some (.sh (.str t)) else if 2 ≤ k ∧ k ≤ 1000 ∧ t.length ≤ 1000 then some (.sh (.str (List.replicate k.toNat t).flatten)) else none
  | _, _ => none
theorem bo_fdiv : BO X (binaryOp .FloorDiv) opFdiv := ⟨_, op_fdiv, int_s fun i j h => by have h : 0 < j ∧ j < 1073741824 := of_decide_eq_true h; exact h⟩
theorem bo_mod : BO X (binaryOp .Mod) opMod := ⟨_, op_mod, int_s fun i j h => of_decide_eq_true h⟩
theorem bo_pow : BO X (binaryOp .Pow) opPow := ⟨_, op_pow, int_s fun i j h => by
  obtain ⟨h1, h2, h3⟩ := of_decide_eq_true h
  exact ⟨h1, by omega, by have e : (2 : Nat) ^ 64 = 18446744073709551616 := by decide
                          rw [e]; exact h3⟩⟩
theorem flat_len' {α : Type} (l : List α) : ∀ k, (List.replicate k l).flatten.length = k * l.length
  | 0 => by simp
  | k + 1 => by rw [List.replicate_succ, List.flatten_cons, List.length_append, flat_len' l k, Nat.succ_mul]; omega
theorem rep_cps (t : Array Nat) : ∀ (n : Nat) (acc : Array Nat), ((List.replicate n t).foldl (· ++ ·) acc).toList = acc.toList ++ (List.replicate n t.toList).flatten
  | 0, acc => by simp
  | n + 1, acc => by
    rw [List.replicate_succ, List.foldl_cons, rep_cps t n, List.replicate_succ, List.flatten_cons]
    simp
theorem op_strK : OpR X (binaryOp .Mult) (fun x y H Q => ∃ t k, x = .str t ∧ y = .int k ∧ ((k = 0 ∧ Q (.str (S [])) H) ∨ (k = 1 ∧ Q (.str t) H) ∨ (2 ≤ k ∧ k ≤ 1000 ∧ t.length ≤ 1000 ∧ Q (.str (S (List.replicate k.toNat t.cps.toList).flatten)) H))) := by
  intro pins s σ H x y v u Q I rx ry h
  obtain ⟨t, k, rfl, rfl, q⟩ := h
  obtain ⟨t1, rfl⟩ := rx
  obtain ⟨t2, rfl⟩ := ry
  rcases q with ⟨rfl, q⟩ | ⟨rfl, q⟩ | ⟨h1, h2, h3, q⟩
  · exact P.mul_str_none (by decide) (by decide) ⟨.str (S []), H, I.tok _, ⟨_, rfl⟩, q⟩
  · refine P.mul_str (by decide) (fun _ z => by simp at z) (fun _ z => by simp at z) ?_
    rw [if_neg (by decide), if_pos (show ((1 : Int) == 1 || t.length == 0) = true from rfl)]
    exact ⟨.str t, H, I, ⟨_, rfl⟩, q⟩
  · have e63 : (2 : Int) ^ 63 = 9223372036854775808 := by decide
    have hmul : t.length * k.toNat ≤ 1000 * 1000 := Nat.mul_le_mul h3 (by omega)
    have hbg : t.length * k.toNat ≤ sizeLine := Nat.le_trans hmul (by rw [sizeLine_eq]; decide)
    have hrep : ∀ n, ((List.replicate n t.cps).foldl (· ++ ·) #[]) = (List.replicate n t.cps.toList).flatten.toArray := fun n => by
      apply Array.ext'
      rw [rep_cps]; simp
    refine P.mul_str ?_ (fun _ _ => ?_) (fun _ _ => ?_) ?_
    · rw [e63]
      rw [decide_eq_false (by omega), decide_eq_false (by omega)]; rfl
    · rw [e63]
      intro z
      have h5 : (t.length : Int) * k ≤ 1000000 := by
        have : ((t.length * k.toNat : Nat) : Int) ≤ 1000000 := by omega
        rw [Int.natCast_mul, Int.toNat_of_nonneg (by omega)] at this
        exact this
      have h6 : (9223372036854775808 - 1 : Int) < (t.length : Int) * k := Int.lt_mul_of_ediv_lt (by omega) z
      omega
    · show decide (t.length * k.toNat > sizeLine) = false
      exact decide_eq_false (by omega)
    · rw [if_neg (by omega)]
      have el : (S (List.replicate k.toNat t.cps.toList).flatten).length ≤ sizeLine := by
        rw [S_len, flat_len']
        show k.toNat * t.cps.toList.length ≤ _
        have : t.cps.toList.length = t.length := by simp [Str.length]
        rw [this, Nat.mul_comm]; exact hbg
      have e2 : Str.mk ((List.replicate k.toNat t.cps).foldl (· ++ ·) #[]) = S (List.replicate k.toNat t.cps.toList).flatten := by rw [hrep]; rfl
      by_cases hz : ((k == 1 || t.length == 0) = true)
      · rw [if_pos hz]
        have h0 : t.length = 0 := by
          rcases Bool.or_eq_true_iff.mp hz with z | z
          · have := eq_of_beq z; omega
          · exact eq_of_beq z
        have et : t.cps.toList = [] := List.eq_nil_of_length_eq_zero (by simpa [Str.length] using h0)
        have e3 : S (List.replicate k.toNat t.cps.toList).flatten = t := by
          rw [et]
          have : (List.replicate k.toNat ([] : List Nat)).flatten = [] := List.eq_nil_of_length_eq_zero (by rw [flat_len']; simp)
          rw [this, ← et]; exact S_cps t
        rw [e3] at q
        exact ⟨.str t, H, I, ⟨_, rfl⟩, q⟩
      · rw [if_neg hz]
        rw [e2]
        exact ⟨el, .str _, H, I.tok _, ⟨_, rfl⟩, q⟩
theorem bo_mul : BO X (binaryOp .Mult) opMul := ⟨_, OpR.or (OpR.or op_mul (OpR.or op_rep op_repT)) op_strK, fun G F H ρ σ x y dx dy s Q r vx vy e k => by
  unfold opMul at e
  split at e
  · split at e
    · rename_i z
      cases e; rw [vw_int vx, vw_int vy]
      refine .inl <| .inl ⟨_, _, rfl, rfl, ?_, k _ F H (Le.refl F) r rv_int⟩
      rcases Bool.or_eq_true_iff.mp z with z | z
      · exact .inl (small64_of z)
      · exact .inr (small64_of z)
    · cases e
  · split at e
    · rename_i z
      obtain ⟨z1, z2, z3⟩ := z
      cases e
      obtain ⟨a, vs, rfl, h1, q1⟩ := vw_lst vx
      rw [vw_int vy]
      rename_i l kk
      have hk : kk.toNat ≤ 1000 := by omega
      refine .inl <| .inr (.inl ⟨_, _, _, rfl, rfl, h1, by omega, by omega, ?_, fun p n => ?_⟩)
      · rw [← q1.length]; exact big_le (Nat.le_trans (Nat.mul_le_mul z3 hk) (by decide))
      · obtain ⟨r', q'⟩ := new_lst r (q1.rep kk.toNat) n
        exact k _ F _ (Le.refl F) r' q'
    · cases e
  · rename_i l kk
    split at e
    · rename_i z
      obtain ⟨z1, z2, z3, z4⟩ := z
      cases e
      obtain ⟨a, vs, rfl, h1, f1, q1⟩ := vw_tup vx
      rw [vw_int vy]
      refine .inl <| .inr (.inr ⟨_, _, _, rfl, rfl, SqT.of h1, ?_, z1, z2, ?_, fun p n => ?_⟩)
      · intro e; subst e; have := q1.length; exact z4 (List.eq_nil_of_length_eq_zero (by simpa using this))
      · rw [← q1.length]; exact z3
      · obtain ⟨l1, r', q'⟩ := new_tup r (q1.rep kk.toNat) n
        exact k _ _ _ l1 r' q'
    · cases e
  · rw [vw_str vx, vw_int vy]
    split at e
    · rename_i z; subst z; cases e
      exact .inr ⟨_, _, rfl, rfl, .inl ⟨rfl, k _ F H (Le.refl F) r rv_str⟩⟩
    · split at e
      · rename_i z; subst z; cases e
        exact .inr ⟨_, _, rfl, rfl, .inr (.inl ⟨rfl, k _ F H (Le.refl F) r rv_str⟩)⟩
      · split at e
        · rename_i z; cases e
          refine .inr ⟨_, _, rfl, rfl, .inr (.inr ⟨z.1, z.2.1, by rw [S_len]; exact z.2.2, ?_⟩)⟩
          rw [S_toList]
          exact k _ F H (Le.refl F) r rv_str
        · cases e
  · cases e⟩
def cmpI (p : Int → Int → Bool) (q : List Nat → List Nat → Bool) : D → D → Option Va
  | .int i, .int j => some (.sh (.bl (p i j)))
  | .str a, .str b => some (.sh (.bl (q a b)))
  | _, _ => none
theorem cmp_s {p : Int → Int → Bool} {q : List Nat → List Nat → Bool} {r2 : R2} {q' : Str → Str → Bool} (hr : ∀ a b H Q, Q (.bl (q' a b)) H → r2 (.str a) (.str b) H Q) (hq : ∀ a b, q' (S a) (S b) = q a b) :
    OpS X (fun x y H Q => rI0 (fun i j => .bl (p i j)) x y H Q ∨ r2 x y H Q) (cmpI p q) := fun G F H ρ σ x y dx dy s Q r vx vy e k => by
  unfold cmpI at e
  split at e
  · cases e; rw [vw_int vx, vw_int vy]
    exact .inl ⟨_, _, rfl, rfl, k _ F H (Le.refl F) r rv_bl⟩
  · cases e; rw [vw_str vx, vw_str vy]
    refine .inr (hr _ _ _ _ ?_)
    rw [hq]
    exact k _ F H (Le.refl F) r rv_bl
  · cases e
def opLt := cmpI (fun i j => decide (i < j)) fun a b => decide (a < b)
def opLe := cmpI (fun i j => decide (i ≤ j)) fun a b => !decide (b < a)
def opGt := cmpI (fun i j => decide (j < i)) fun a b => decide (b < a)
def opGe := cmpI (fun i j => decide (j ≤ i)) fun a b => !decide (a < b)
theorem bo_lt : BO X (compareOp .Lt) opLt := ⟨_, OpR.or op_lt op_lt_str, cmp_s (q' := fun a b => decide (a.cps.toList < b.cps.toList)) (fun a b H Q q => ⟨a, b, rfl, rfl, q⟩) fun a b => by simp only [S_toList]⟩
theorem bo_le : BO X (compareOp .LtE) opLe := ⟨_, OpR.or op_le op_le_str, cmp_s (q' := fun a b => !decide (b.cps.toList < a.cps.toList)) (fun a b H Q q => ⟨a, b, rfl, rfl, q⟩) fun a b => by simp only [S_toList]⟩
theorem bo_gt : BO X (compareOp .Gt) opGt := ⟨_, OpR.or op_gt op_gt_str, cmp_s (q' := fun a b => decide (b.cps.toList < a.cps.toList)) (fun a b H Q q => ⟨a, b, rfl, rfl, q⟩) fun a b => by simp only [S_toList]⟩
theorem bo_ge : BO X (compareOp .GtE) opGe := ⟨_, OpR.or op_ge op_ge_str, cmp_s (q' := fun a b => !decide (a.cps.toList < b.cps.toList)) (fun a b H Q q => ⟨a, b, rfl, rfl, q⟩) fun a b => by simp only [S_toList]⟩
mutual
def toP : D → PyData
  | .non => .none
  | .bl b => .bool b
  | .int i => .int i
  | .str s => .str (S s)
  | .tup l => .tuple (toPs l)
  | .lst l => .list (toPs l)
  | .scr l => .list (toPs l)
  | .dic _ => .dict []
  | .x0 _ => .dict []
  | .ttp _ => .dict []
  | .x1 _ _ _ => .dict []
def toPs : List D → List PyData
  | [] => []
  | d :: l => toP d :: toPs l
end
mutual
/-- data without dicts, of valid texts, at most n deep -/
def okD (n : Nat) : D → Bool
  | .str s => s.all (· < 0x110000)
  | .tup l => match n with
    | 0 => false
    | m + 1 => okDs m l
  | .lst l => match n with
    | 0 => false
    | m + 1 => okDs m l
  | .scr l => match n with
    | 0 => false
    | m + 1 => okDs m l
  | .dic _ => false
  | .x0 _ => false
  | .ttp _ => false
  | .x1 _ _ _ => false
  | _ => true
def okDs (n : Nat) : List D → Bool
  | [] => true
  | d :: l => okD n d && okDs n l
end
mutual
def eqD : D → D → Bool
  | .non, .non => true
  | .bl a, .bl b => a == b
  | .bl a, .int j => (if a then 1 else 0) == j
  | .int i, .bl b => i == (if b then 1 else 0)
  | .int i, .int j => decide (i = j)
  | .str x, .str y => decide (x = y)
  | .lst xs, .lst ys => eqDs xs ys
  | .lst xs, .scr ys => eqDs xs ys
  | .scr xs, .lst ys => eqDs xs ys
  | .scr xs, .scr ys => eqDs xs ys
  | .tup xs, .tup ys => eqDs xs ys
  | _, _ => false
def eqDs : List D → List D → Bool
  | [], [] => true
  | x :: xs, y :: ys => eqD x y && eqDs xs ys
  | _, _ => false
end
theorem S_beq (a b : List Nat) : (S a == S b) = decide (a = b) := by
  by_cases h : a = b
  · subst h; simp
  · rw [decide_eq_false h]
    exact beq_eq_false_iff_ne.mpr fun e => h (S_inj e)
mutual
theorem eqv_toP : ∀ (a b : D), PyData.eqv (toP a) (toP b) = eqD a b := fun a b => by
  cases a <;> cases b <;> first
    | (simp only [toP, PyData.eqv, eqD]; done)
    | (simp only [toP, PyData.eqv, eqD]; exact S_beq _ _)
    | (simp only [toP, PyData.eqv, eqD]; exact eqvs_toP _ _)
    | (simp only [toP, PyData.eqv, eqD]; exact (by simp [BEq.beq]))
theorem eqvs_toP : ∀ (a b : List D), PyData.eqvAll (toPs a) (toPs b) = eqDs a b
  | [], [] => by simp only [toPs, PyData.eqvAll, eqDs]
  | [], _ :: _ => by simp only [toPs, PyData.eqvAll, eqDs]
  | _ :: _, [] => by simp only [toPs, PyData.eqvAll, eqDs]
  | x :: xs, y :: ys => by simp only [toPs, PyData.eqvAll, eqDs]; rw [eqv_toP x y, eqvs_toP xs ys]
end
mutual
theorem okD_lay : ∀ (n : Nat) (d : D), okD n d = true → (toP d).canLay0 = true ∧ (toP d).depth ≤ n
  | n, .non, _ => by simp [toP, PyData.canLay0, PyData.depth]
  | n, .bl _, _ => by simp [toP, PyData.canLay0, PyData.depth]
  | n, .int _, _ => by simp [toP, PyData.canLay0, PyData.depth]
  | n, .str s, h => by
    simp only [okD] at h
    simp only [toP, PyData.canLay0, PyData.depth]
    refine ⟨?_, Nat.zero_le _⟩
    unfold PyData.strOk S
    simpa using h
  | 0, .tup l, h => by simp [okD] at h
  | n + 1, .tup l, h => by
    simp only [okD] at h
    obtain ⟨h1, h2⟩ := okDs_lay n l h
    simp only [toP, PyData.canLay0, PyData.depth]
    exact ⟨h1, by omega⟩
  | 0, .lst l, h => by simp [okD] at h
  | n + 1, .lst l, h => by
    simp only [okD] at h
    obtain ⟨h1, h2⟩ := okDs_lay n l h
    simp only [toP, PyData.canLay0, PyData.depth]
    exact ⟨h1, by omega⟩
  | 0, .scr l, h => by simp [okD] at h
  | n + 1, .scr l, h => by
    simp only [okD] at h
    obtain ⟨h1, h2⟩ := okDs_lay n l h
    simp only [toP, PyData.canLay0, PyData.depth]
    exact ⟨h1, by omega⟩
  | n, .dic _, h => by simp [okD] at h
theorem okDs_lay : ∀ (n : Nat) (l : List D), okDs n l = true → PyData.canLayAll0 (toPs l) = true ∧ PyData.depthAll (toPs l) ≤ n
  | n, [], _ => by simp [toPs, PyData.canLayAll0, PyData.depthAll]
  | n, d :: l, h => by
    simp only [okDs] at h
    obtain ⟨h1, h2⟩ := Bool.and_eq_true_iff.mp h
    obtain ⟨a1, a2⟩ := okD_lay n d h1
    obtain ⟨b1, b2⟩ := okDs_lay n l h2
    simp only [toPs, PyData.canLayAll0, PyData.depthAll]
    exact ⟨by rw [a1, b1]; rfl, by omega⟩
end
theorem okD_shaped {d : D} (h : okD 64 d = true) : SeqAt.shaped (toP d) = true := by
  obtain ⟨h1, h2⟩ := okD_lay 64 d h
  unfold SeqAt.shaped
  rw [h1, decide_eq_true h2]; rfl
mutual
theorem dp_of {K : Frag} {F H : Hp} (s : Sub F H) : ∀ (n : Nat) (d : D) (v : V), okD n d = true → Rp K F d v → Dp K H v (toP d)
  | _, .non, v, _, r => by simp only [Rp] at r; subst r; simp only [toP]; exact .non
  | _, .bl b, v, _, r => by simp only [Rp] at r; subst r; simp only [toP]; exact .bl b
  | _, .int i, v, _, r => by simp only [Rp] at r; subst r; simp only [toP]; exact .int i
  | _, .str x, v, _, r => by simp only [Rp] at r; subst r; simp only [toP]; exact .str _
  | 0, .tup l, _, h, _ => by simp [okD] at h
  | n + 1, .tup l, v, h, r => by
    simp only [okD] at h
    simp only [Rp] at r
    obtain ⟨a, vs, rfl, q, r⟩ := r
    simp only [toP]
    exact .tup (SqT.of (s _ _ q)) (dps_of s n l vs h r)
  | 0, .lst l, _, h, _ => by simp [okD] at h
  | n + 1, .lst l, v, h, r => by
    simp only [okD] at h
    simp only [Rp] at r
    obtain ⟨a, vs, rfl, q, r⟩ := r
    simp only [toP]
    exact .lst (SqL.of (s _ _ q)) (dps_of s n l vs h r)
  | 0, .scr l, _, h, _ => by simp [okD] at h
  | n + 1, .scr l, v, h, r => by
    simp only [okD] at h
    simp only [Rp] at r
    obtain ⟨a, vs, rfl, q, r⟩ := r
    simp only [toP]
    exact .lst (sq_sub s q) (dps_of s n l vs h r)
  | _, .dic _, _, h, _ => by simp [okD] at h
  | _, .x0 _, _, h, _ => by simp [okD] at h
  | _, .ttp _, _, h, _ => by simp [okD] at h
  | _, .x1 _ _ _, _, h, _ => by simp [okD] at h
theorem dps_of {K : Frag} {F H : Hp} (s : Sub F H) : ∀ (n : Nat) (l : List D) (vs : List V), okDs n l = true → Rps K F l vs → DpAll K H vs (toPs l)
  | _, [], vs, _, r => by simp only [Rps] at r; subst r; simp only [toPs]; exact .nil
  | n, d :: l, vs, h, r => by
    simp only [okDs] at h
    obtain ⟨h1, h2⟩ := Bool.and_eq_true_iff.mp h
    obtain ⟨v, q, rfl, r1, r2⟩ := r.cases1
    simp only [toPs]
    exact .cons (dp_of s n d v h1 r1) (dps_of s n l q h2 r2)
end
theorem dp_vw {K : Frag} {F H : Hp} (s : Sub F H) {d : D} {v : V} (o : okD 64 d = true) (h : Vw K F H d v) : Dp K H v (toP d) := by
  cases d with
  | lst l =>
    obtain ⟨a, vs, rfl, h1, q⟩ := vw_lst h
    simp only [okD] at o
    simp only [toP]
    exact .lst (SqL.of h1) (dps_of s 63 l vs o q)
  | tup l =>
    obtain ⟨a, vs, rfl, h1, f1, q⟩ := vw_tup h
    simp only [okD] at o
    simp only [toP]
    exact .tup (SqT.of h1) (dps_of s 63 l vs o q)
  | dic l => simp [okD] at o
  | x0 c => simp [okD] at o
  | ttp c => simp [okD] at o
  | x1 c f e => simp [okD] at o
  | non => exact dp_of s 64 _ _ o h
  | bl b => exact dp_of s 64 _ _ o h
  | int i => exact dp_of s 64 _ _ o h
  | str i => exact dp_of s 64 _ _ o h
  | scr l => exact dp_of s 64 _ _ o h
def opEq (a b : D) : Option Va := if okD 64 a && okD 64 b then some (.sh (.bl (eqD a b))) else none
def opNe (a b : D) : Option Va := if okD 64 a && okD 64 b then some (.sh (.bl (!eqD a b))) else none
theorem bo_eq (hu : X.A.units + 64 < cLine) : BO X (compareOp .Eq) opEq := ⟨_, op_eqD hu, fun G F H ρ σ x y dx dy s Q r vx vy e k => by
  unfold opEq at e
  split at e
  · rename_i z
    cases e
    obtain ⟨z1, z2⟩ := Bool.and_eq_true_iff.mp z
    exact ⟨_, _, dp_vw r.sub z1 vx, dp_vw r.sub z2 vy, okD_shaped z1, okD_shaped z2, by rw [eqv_toP]; exact k _ F H (Le.refl F) r rv_bl⟩
  · cases e⟩
theorem bo_ne (hu : X.A.units + 64 < cLine) : BO X (compareOp .NotEq) opNe := ⟨_, op_neD hu, fun G F H ρ σ x y dx dy s Q r vx vy e k => by
  unfold opNe at e
  split at e
  · rename_i z
    cases e
    obtain ⟨z1, z2⟩ := Bool.and_eq_true_iff.mp z
    exact ⟨_, _, dp_vw r.sub z1 vx, dp_vw r.sub z2 vy, okD_shaped z1, okD_shaped z2, by rw [eqv_toP]; exact k _ F H (Le.refl F) r rv_bl⟩
  · cases e⟩
/-- is None; is True -/
def isNon : D → Bool
  | .non => true
  | _ => false
def opIs : D → D → Option Va
  | .bl a, .bl b => some (.sh (.bl (decide (a = b))))
  | a, .non => some (.sh (.bl (isNon a)))
  | _, _ => none
def opIsNot : D → D → Option Va
  | .bl a, .bl b => some (.sh (.bl (!decide (a = b))))
  | a, .non => some (.sh (.bl (!isNon a)))
  | _, _ => none
theorem isNon_of {K : Frag} {F H : Hp} {d : D} {v : V} (h : Vw K F H d v) : decide (v = .non) = isNon d := by
  cases d with
  | non => rw [vw_non h]; rfl
  | bl b => rw [vw_bl h]; rfl
  | int i => rw [vw_int h]; rfl
  | str i => rw [vw_str h]; rfl
  | tup l => obtain ⟨a, vs, rfl, _⟩ := vw_tup h; rfl
  | lst l => obtain ⟨a, vs, rfl, _⟩ := vw_lst h; rfl
  | scr l => simp only [Vw, Rp] at h; obtain ⟨a, vs, rfl, _⟩ := h; rfl
  | dic l => obtain ⟨a, rfl, _⟩ := h; rfl
  | x0 c => simp only [Vw, Rp] at h; obtain ⟨a, rfl, _⟩ := h; rfl
  | ttp c => simp only [Vw, Rp] at h; obtain ⟨a, o, rfl, _⟩ := h; rfl
  | x1 c f e => simp only [Vw, Rp] at h; obtain ⟨a, x, w, rfl, _⟩ := h; rfl
theorem bo_is : BO X (compareOp .Is) opIs := ⟨_, OpR.or op_isBl op_isN, fun G F H ρ σ x y dx dy s Q r vx vy e k => by
  unfold opIs at e
  split at e
  · cases e; rw [vw_bl vx, vw_bl vy]; exact .inl ⟨_, _, rfl, rfl, k _ F H (Le.refl F) r rv_bl⟩
  · cases e; rw [vw_non vy]; exact .inr ⟨rfl, by rw [isNon_of vx]; exact k _ F H (Le.refl F) r rv_bl⟩
  · cases e⟩
theorem bo_isNot : BO X (compareOp .IsNot) opIsNot := ⟨_, OpR.or op_notBl op_notN, fun G F H ρ σ x y dx dy s Q r vx vy e k => by
  unfold opIsNot at e
  split at e
  · cases e; rw [vw_bl vx, vw_bl vy]; exact .inl ⟨_, _, rfl, rfl, k _ F H (Le.refl F) r rv_bl⟩
  · cases e; rw [vw_non vy]; exact .inr ⟨rfl, by rw [isNon_of vx]; exact k _ F H (Le.refl F) r rv_bl⟩
  · cases e⟩
end
end Z
namespace Z
open PySem PySem.Spec L2
theorem em_bo {X : Cx} {W : WX} {a b : Expr} {ma mb : M Va} {op : Operator} {o : D → D → Option Va} {pos : Pos} (h : BO X (binaryOp op) o) (ha : EM X W a ma) (hb : EM X W b mb) : EM X W (.BinOp a op b pos) (M.bin o ma mb) := by
  obtain ⟨r, ho, hs⟩ := h
  exact em_op ho hs ha hb
theorem em_co {X : Cx} {W : WX} {a b : Expr} {ma mb : M Va} {op : CmpOp} {o : D → D → Option Va} {pos : Pos} (h : BO X (compareOp op) o) (ha : EM X W a ma) (hb : EM X W b mb) (hm : behindInMarks op b = false := by first | exact nomark _ | rfl) : EM X W (.Compare a [op] [b] pos) (M.bin o ma mb) := by
  obtain ⟨r, ho, hs⟩ := h
  exact em_cmp ho hs ha hb hm
theorem tm_co {X : Cx} {W : WX} {a b : Expr} {ma mb : M Va} {op : CmpOp} {o : D → D → Option Va} {pos : Pos} (h : BO X (compareOp op) o) (ha : EM X W a ma) (hb : EM X W b mb) (hm : behindInMarks op b = false := by first | exact nomark _ | rfl) : TM X W (.Compare a [op] [b] pos) (M.toB (M.bin o ma mb)) := by
  obtain ⟨r, ho, hs⟩ := h
  exact tm_cmp ho hs ha hb hm
def MS.pass : MS := fun ρ => .nx ρ
def MS.brk : MS := fun ρ => .bk ρ
def MS.cont : MS := fun ρ => .ct ρ
def MS.seq (a b : MS) : MS := fun ρ => (a ρ).seq b
def MS.expr (m : M Va) : MS := fun ρ => (m ρ).thn fun _ ρ => .nx ρ
def MS.ite (c : M Bool) (a b : MS) : MS := fun ρ => (c ρ).thn fun k => if k then a else b
def M.sto (i : Nat) : Va → MS
  | .nw d => fun ρ => .nx (ρ.set i (.ow false false d))
  | .sh d => fun ρ => .nx (ρ.set i (.sh false d))
  | .at j => fun ρ => (M.shr (.at j) ρ).thn fun d ρ => .nx (ρ.set i (.sh false d))
def MS.asg (i : Nat) (m : M Va) : MS := fun ρ => (m ρ).thn (M.sto i)
def M.rv : Va → M Va
  | .at i => fun ρ => match ρ[i]? with
    | some (.sh _ d) => .ok (.sh d) ρ
    | some (.ow false false d) => .ok (.nw d) (ρ.set i .no)
    | some (.ow true false d) => .ok (.sh d) (ρ.set i (.sh true d))
    | _ => .bad
  | a => fun ρ => .ok a ρ
def MS.ret (m : M Va) : MS := fun ρ => (m ρ).thn fun a ρ => (M.rv a ρ).thn fun a ρ => .ret a ρ
def MS.retN : MS := fun ρ => .ret (.sh .non) ρ
def RS.turn (r : RS) (k : MS) : RS := match r with
  | .nx ρ => k ρ
  | .ct ρ => k ρ
  | .bk ρ => .nx ρ
  | r => r
section
variable {X : Cx} {W : WX} {G : Gh} {F F' H : Hp} {σ : St} {ρ : Ev} {En : Ends} {α β : Type} {pos : Pos}
theorem PostS.le {r : RS} (l : Le F F') (h : PostS X W G F r En) : PostS X W G F' r En := by
  cases r with
  | nx ρ' => exact fun σ' F2 H' l2 => h σ' F2 H' (l.trans l2)
  | bk ρ' => exact fun σ' F2 H' l2 => h σ' F2 H' (l.trans l2)
  | ct ρ' => exact fun σ' F2 H' l2 => h σ' F2 H' (l.trans l2)
  | ret s ρ' => exact fun v σ' F2 H' l2 => h v σ' F2 H' (l.trans l2)
  | exc c d ρ' => exact fun cls dd σ' F2 H' l2 => h cls dd σ' F2 H' (l.trans l2)
  | bad => exact h
/-- an expression, then a statement -/
theorem PostS.thn {r : R α} {k : α → MS} {Res : Hp → Hp → Ev → α → β → Prop} {Q : β → Hp → Prop} (h : PostS X W G F (r.thn k) En)
    (i : ∀ v F1 H1 ρ1 a, r = .ok a ρ1 → Le F F1 → Rep X.K G F1 H1 ρ1 σ → Res F1 H1 ρ1 a v → PostS X W G F1 (k a ρ1) En → Q v H1) : Post X W G F σ Res r Q := by
  cases r with
  | ok a ρ' => exact fun v F' H' l r q => i v F' H' ρ' a rfl l r q (PostS.le l h)
  | exc c d ρ' => exact fun cls dd F' H' l r x => h cls dd σ F' H' l r x
  | bad => exact h
theorem bm_nil : BM X W [] MS.pass := fun G => pss_weak pss_nil fun En σ H ⟨F, ρ, r, p⟩ => p σ F H (Le.refl F) r
theorem bm_one {st : Stmt} {m : MS} (h : SM X W st m) : BM X W [st] m := fun G => pss_one (h G)
theorem seq_post {r : RS} {k : MS} (p : PostS X W G F (r.seq k) En) : PostS X W G F r { En with nx := tS X W G k En } := by
  cases r with
  | nx ρ' => exact fun σ' F' H' l r => ⟨F', ρ', r, PostS.le l p⟩
  | _ => exact p
theorem bm_cons {st : Stmt} {sts : List Stmt} {m n : MS} (h : SM X W st m) (h2 : BM X W sts n) : BM X W (st :: sts) (MS.seq m n) := fun G => pss_weak (pss_cons (h G) (h2 G)) fun En σ H ⟨F, ρ, r, p⟩ => ⟨F, ρ, r, seq_post p⟩
theorem sm_expr {e : Expr} {m : M Va} (h : EM X W e m) (hs : swapsWith e none pos.line X.env = pure false := by rfl) : SM X W (.Expr e pos) (MS.expr m) := fun G => ps_weak (ps_expr (h G) hs) fun En σ H ⟨F, ρ, r, p⟩ =>
  ⟨F, ρ, r, PostS.thn p fun v F1 H1 ρ1 a e l r1 q p1 => p1 σ F1 H1 (Le.refl F1) r1⟩
theorem sm_if {c : Expr} {a b : List Stmt} {mc : M Bool} {ma mb : MS} (hc : TM X W c mc) (ha : BM X W a ma) (hb : BM X W b mb) : SM X W (.If c a b pos) (MS.ite mc ma mb) := fun G => ps_weak (ps_if (hc G) (ha G) (hb G)) fun En σ H ⟨F, ρ, r, p⟩ =>
  ⟨F, ρ, r, PostS.thn p fun k F1 H1 ρ1 a e l r1 q p1 => by
    have q : a = k := q
    subst q
    cases a with
    | true => rw [if_pos rfl]; exact ⟨F1, ρ1, r1, p1⟩
    | false => rw [if_neg Bool.false_ne_true]; exact ⟨F1, ρ1, r1, p1⟩⟩
theorem sto_step {i : Nat} {a : Va} {v : V} (r : Rep X.K G F H ρ σ) (q : ResV X.K G σ F H ρ a v) (p : PostS X W G F (M.sto i a ρ) En) : En.nx (σ.set i (some v)) H := by
  cases a with
  | nw d =>
    obtain ⟨a, rfl, n, q, nf, g, w⟩ := q
    refine p (σ.set i (some (.ref a))) F H (Le.refl F) (r.set ⟨a, rfl, n, q, g.2, (fun z => by cases z), (fun _ => g.1), (fun _ => nf), (fun z => by cases z)⟩ ?_)
    intro p' l' d' b e1 e2 j _ x
    cases e2; exact w j x
  | sh d => exact p _ F H (Le.refl F) (r.set ⟨⟨v, rfl, q⟩, fun z => by cases z⟩ fun _ _ _ _ z => by cases z)
  | «at» j =>
    change PostS X W G F ((M.shr (.at j) ρ).thn fun d ρ => .nx (ρ.set i (.sh false d))) En at p
    cases e : M.shr (.at j) ρ with
    | bad => rw [e] at p; exact p.elim
    | exc c d ρ' => exact absurd e shr_noexc
    | ok d ρ' =>
      rw [e] at p
      obtain ⟨F1, l, r1, q1⟩ := shr_step r q e
      exact p _ F1 H l (r1.set ⟨⟨v, rfl, q1⟩, fun z => by cases z⟩ fun _ _ _ _ z => by cases z)
theorem sm_asg {i : Nat} {x : Str} {e : Expr} {m : M Va} {pos' : Pos} (nd : X.N.Nodup) (h : EM X W e m) (hi : X.N[i]? = some x := by rfl) (hx : Loc X.env.scope x := by first | exact Or.inl rfl | exact Or.inr rfl) (hf : X.fn x = true ∨ X.env.scope.names.lookup x = some .local := by first | exact .inl rfl | exact .inr rfl)
    (hs : swapsWith e (some (.Name x pos')) pos.line X.env = pure false := by rfl) : SM X W (.Assign [.Name x pos'] e pos) (MS.asg i m) := fun G => ps_weak (ps_set nd hi hx (h G) hs hf) fun En σ H ⟨F, ρ, r, p⟩ =>
  ⟨F, ρ, r, PostS.thn p fun v F1 H1 ρ1 a e l r1 q p1 => sto_step r1 q p1⟩
theorem sm_ret {e : Expr} {m : M Va} (h : EM X W e m) : SM X W (.Return (some e) pos) (MS.ret m) := fun G => ps_weak (ps_ret (h G)) fun En σ H ⟨F, ρ, r, p⟩ =>
  ⟨F, ρ, r, PostS.thn p fun v F1 H1 ρ1 a e l r1 q p1 => by
    cases a with
    | sh d => exact p1 v σ F1 H1 (Le.refl F1) r1 q (fun i z => by cases z)
    | nw d => exact p1 v σ F1 H1 (Le.refl F1) r1 q (fun i z => by cases z)
    | «at» i =>
      have q : σ[i]? = some (some v) := q
      simp only [M.rv] at p1
      split at p1
      · rename_i pp d e
        obtain ⟨ov, ev, ⟨w, rfl, q2⟩, _⟩ := r1.val e
        rw [q] at ev; cases ev
        exact p1 v σ F1 H1 (Le.refl F1) r1 q2 (fun i z => by cases z)
      · rename_i d e
        obtain ⟨ov, ev, a, rfl, n, qq, b0, b1, b2, b3, b4⟩ := r1.val e
        rw [q] at ev; cases ev
        have r2 : Rep X.K G F1 H1 (ρ1.set i .no) σ := r1.put q trivial fun _ _ _ _ z => by cases z
        refine p1 (.ref a) σ F1 H1 (Le.refl F1) r2 ⟨a, rfl, n, qq, b3 rfl, ⟨b2 rfl, b0⟩, fun j w => ?_⟩ (fun i z => by cases z)
        have ev' : σ.set i (some (V.ref a)) = σ := set_self q
        rw [← ev'] at w
        rcases ownAt_set w with ⟨h1, w⟩ | ⟨h1, p, l, d, q1, _⟩
        · exact h1 (r1.inj j i a w ⟨false, false, d, e, q⟩)
        · cases q1
      · rename_i d e
        obtain ⟨F2, w, l2, r2, ev, q2⟩ := r1.freeze e
        rw [q] at ev; cases ev
        exact p1 v σ F2 H1 l2 r2 q2 (fun i z => by cases z)
      · exact p1.elim⟩
inductive Tgt where
  | n (i : Nat) | t (l : List Tgt)
def gOr (g1 g2 : TG) : TG := fun v σ H Q => g1 v σ H Q ∨ g2 v σ H Q
theorem pg_or {X : Cx} {e : Expr} {g1 g2 : TG} (h1 : PG X e g1) (h2 : PG X e g2) : PG X e (gOr g1 g2) := ⟨fun pins s σ H v u Q I r hw => hw.elim (fun z => h1.run pins s σ H v u Q I r z) (fun z => h2.run pins s σ H v u Q I r z)⟩
mutual
def Tgt.tg (K : Frag) : Tgt → TG
  | .n i => gName i
  | .t l => gOr (gTup K l.length (Tgt.tgs K l)) (gUnl K l.length (Tgt.tgs K l))
def Tgt.tgs (K : Frag) : List Tgt → TGs
  | [] => gNil
  | a :: l => gCons (Tgt.tg K a) (Tgt.tgs K l)
end
mutual
def Tgt.is : Tgt → List Nat
  | .n i => [i]
  | .t l => Tgt.iss l
def Tgt.iss : List Tgt → List Nat
  | [] => []
  | a :: l => Tgt.is a ++ Tgt.iss l
end
mutual
/-- a target takes shared data -/
def Tgt.f : Tgt → D → Ev → Option Ev
  | .n i, d, ρ => some (ρ.set i (.sh false d))
  | .t l, d, ρ => match d with
    | .tup ds => Tgt.fs l ds ρ
    | .lst ds => Tgt.fs l ds ρ
    | _ => none
def Tgt.fs : List Tgt → List D → Ev → Option Ev
  | [], ds, ρ => match ds with
    | [] => some ρ
    | _ => none
  | a :: l, ds, ρ => match ds with
    | d :: ds => (Tgt.f a d ρ).bind (Tgt.fs l ds)
    | [] => none
end
def TGM (X : Cx) (e : Expr) (τ : Tgt) : Prop := PG X e (τ.tg X.K)
def TGMs (X : Cx) (es : List Expr) (l : List Tgt) : Prop := PGs X es (Tgt.tgs X.K l)
/-- alike but for some slots -/
def Agr (is : List Nat) (σ σ' : St) : Prop := σ'.length = σ.length ∧ ∀ j, j ∉ is → σ'[j]? = σ[j]?
theorem Agr.refl {is : List Nat} {σ : St} : Agr is σ σ := ⟨rfl, fun _ _ => rfl⟩
theorem Agr.trans {is js : List Nat} {σ1 σ2 σ3 : St} (a : Agr is σ1 σ2) (b : Agr js σ2 σ3) : Agr (is ++ js) σ1 σ3 := ⟨b.1.trans a.1, fun j h => (b.2 j fun z => h (List.mem_append_right _ z)).trans (a.2 j fun z => h (List.mem_append_left _ z))⟩
theorem fs_len : ∀ {l : List Tgt} {ds : List D} {ρ ρ' : Ev}, Tgt.fs l ds ρ = some ρ' → l.length = ds.length
  | [], [], _, _, _ => rfl
  | [], _ :: _, _, _, h => by simp [Tgt.fs] at h
  | _ :: _, [], _, _, h => by simp [Tgt.fs] at h
  | a :: l, d :: ds, ρ, ρ', h => by
    simp only [Tgt.fs] at h
    obtain ⟨ρ1, _, e2⟩ := bind_some h
    simp [fs_len e2]
mutual
theorem Tgt.read {K : Frag} : ∀ (τ : Tgt) {G : Gh} {F H : Hp} {ρ ρ' : Ev} {σ : St} {v : V} {d : D} {Q : St → Hp → Prop}, Rep K G F H ρ σ → Rp K F d v → τ.f d ρ = some ρ' → (∀ σ', Rep K G F H ρ' σ' → Agr τ.is σ σ' → Q σ' H) → τ.tg K v σ H Q
  | .n i, G, F, H, ρ, ρ', σ, v, d, Q, r, q, e, k => by
    simp only [Tgt.f] at e
    cases e
    simp only [Tgt.tg]
    exact k _ (r.set ⟨⟨v, rfl, q⟩, fun z => by cases z⟩ fun _ _ _ _ z => by cases z) ⟨List.length_set, fun j h => by
      have : i ≠ j := fun z => h (by simp [Tgt.is, z])
      rw [List.getElem?_set_ne this]⟩
  | .t l, G, F, H, ρ, ρ', σ, v, d, Q, r, q, e, k => by
    simp only [Tgt.f] at e
    split at e
    · rename_i ds
      simp only [Rp] at q
      obtain ⟨a, vs, rfl, h1, q⟩ := q
      simp only [Tgt.tg]
      exact .inl ⟨a, vs, rfl, SqT.of (r.sub _ _ h1), by rw [← q.length, fs_len e], Tgt.reads l r q e fun σ' r' ag => k σ' r' (by simpa only [Tgt.is] using ag)⟩
    · rename_i ds
      simp only [Rp] at q
      obtain ⟨a, vs, rfl, h1, q⟩ := q
      simp only [Tgt.tg]
      exact .inr ⟨a, vs, rfl, SqL.of (r.sub _ _ h1), by rw [← q.length, fs_len e], Tgt.reads l r q e fun σ' r' ag => k σ' r' (by simpa only [Tgt.is] using ag)⟩
    · cases e
theorem Tgt.reads {K : Frag} : ∀ (l : List Tgt) {G : Gh} {F H : Hp} {ρ ρ' : Ev} {σ : St} {vs : List V} {ds : List D} {Q : St → Hp → Prop}, Rep K G F H ρ σ → Rps K F ds vs → Tgt.fs l ds ρ = some ρ' → (∀ σ', Rep K G F H ρ' σ' → Agr (Tgt.iss l) σ σ' → Q σ' H) → Tgt.tgs K l vs σ H Q
  | [], G, F, H, ρ, ρ', σ, vs, ds, Q, r, q, e, k => by
    simp only [Tgt.fs] at e
    split at e
    · cases e
      simp only [Rps] at q; subst q
      simp only [Tgt.tgs]
      exact ⟨rfl, k σ r Agr.refl⟩
    · cases e
  | a :: l, G, F, H, ρ, ρ', σ, vs, ds, Q, r, q, e, k => by
    simp only [Tgt.fs] at e
    split at e
    · rename_i d ds
      obtain ⟨v, vs', rfl, q1, q2⟩ := q.cases1
      obtain ⟨ρ1, e1, e2⟩ := bind_some e
      simp only [Tgt.tgs]
      exact ⟨v, vs', rfl, Tgt.read a r q1 e1 fun σ1 r1 g1 => Tgt.reads l r1 q2 e2 fun σ2 r2 g2 => k σ2 r2 (by simp only [Tgt.iss]; exact g1.trans g2)⟩
    · cases e
end
theorem tg_name (i : Nat) {x : Str} (nd : X.N.Nodup) (hi : X.N[i]? = some x := by rfl) (hx : Loc X.env.scope x := by first | exact Or.inl rfl | exact Or.inr rfl) (hf : X.fn x = true ∨ X.env.scope.names.lookup x = some .local := by first | exact .inl rfl | exact .inr rfl) : TGM X (.Name x pos) (.n i) := by
  unfold TGM; simp only [Tgt.tg]; exact pg_name nd hi hx hf
theorem tg_nil : TGMs X [] [] := by unfold TGMs; simp only [Tgt.tgs]; exact pgs_nil
theorem tg_cons {e : Expr} {es : List Expr} {τ : Tgt} {l : List Tgt} (h1 : TGM X e τ) (h2 : TGMs X es l) (hs : (assignEach (e :: es) X.env).map (·.2) = assign e X.env :: (assignEach es X.env).map (·.2) := by rfl) : TGMs X (e :: es) (τ :: l) := by
  unfold TGMs; simp only [Tgt.tgs]; exact pgs_cons h1 h2 hs
theorem tg_tup {es : List Expr} {k0} {l : List Tgt} (hc : X.calm = true) (h : TGMs X es l) (hn : (assignEach es X.env).length = l.length := by rfl) (hst : (assignEach es X.env).findIdx? (·.1) = none := by rfl) : TGM X (.Tuple es k0 pos) (.t l) := by
  unfold TGM; simp only [Tgt.tg]; exact pg_or (pg_tup hc h hn hst) (pg_unl hc h hn hst)
def MS.asgT (τ : Tgt) (m : M Va) : MS := fun ρ => (m ρ).thn fun a ρ => (M.shr a ρ).thn fun d ρ => match τ.f d ρ with
  | some ρ' => .nx ρ'
  | none => .bad
end
end Z
namespace Z
open PySem PySem.Spec L2
section
variable {X : Cx} {W : WX} {G : Gh} {F F' H : Hp} {σ : St} {ρ : Ev} {En : Ends} {α β : Type} {pos : Pos}
theorem post_shr {a : Va} {v : V} {k : D → MS} (r : Rep X.K G F H ρ σ) (q : ResV X.K G σ F H ρ a v) (p : PostS X W G F ((M.shr a ρ).thn k) En) : ∃ F' d ρ', Le F F' ∧ Rep X.K G F' H ρ' σ ∧ Rp X.K F' d v ∧ PostS X W G F' (k d ρ') En := by
  cases e : M.shr a ρ with
  | bad => rw [e] at p; exact p.elim
  | exc c d ρ' => exact absurd e shr_noexc
  | ok d ρ' =>
    rw [e] at p
    obtain ⟨F1, l, r1, q1⟩ := shr_step r q e
    exact ⟨F1, d, ρ', l, r1, q1, PostS.le l p⟩
theorem sm_asgT {tg e : Expr} {τ : Tgt} {m : M Va} (hg : TGM X tg τ) (h : EM X W e m) (hs : swapsWithSole [tg] e pos.line X.env = pure false := by rfl) (hw : swappedStores [tg] e X.env = pure none := by rfl)
    (h1 : (assignEach [tg] X.env).map (·.2) = [assign tg X.env] := by rfl) : SM X W (.Assign [tg] e pos) (MS.asgT τ m) := by
  refine fun G => ps_weak (ps_asg (h G) hg hs hw h1) fun En σ H ⟨F, ρ, r, p⟩ => ⟨F, ρ, r, PostS.thn p fun v F1 H1 ρ1 a e l r1 q p1 => ?_⟩
  obtain ⟨F2, d, ρ2, l2, r2, q2, p2⟩ := post_shr r1 q p1
  cases e2 : τ.f d ρ2 with
  | none => rw [e2] at p2; exact p2.elim
  | some ρ3 =>
    rw [e2] at p2
    exact τ.read r2 q2 e2 fun σ' r' _ => p2 σ' F2 H1 (Le.refl F2) r'
/-- the items of a walk -/
def Wk (K : Frag) (F1 : Hp) (l : List D) (J : It) : Prop := ∀ F H, Le F1 F → Sub F H → ∀ i,
  (∀ d, l[i]? = some d → J.go i H ∧ ∀ x H', J.yld i H x H' → (H' = H ∧ Rp K F d x) ∨ (∃ T vs, H T = none ∧ H' = upd H T (.tup vs) ∧ Rp K (upd F T (.tup vs)) d x) ∨ ∃ T vs, H T = some (.tup vs) ∧ H' = H ∧ ∀ F', Le F F' → F' T = some (.tup vs) → Rp K F' d x) ∧ (l.length ≤ i → J.stop i H)
def IM (X : Cx) (W : WX) (tg e : Expr) (m : M (List D)) : Prop := ∀ G, PI X tg e (tG X W G (fun _ F _ _ l J => Wk X.K F l J) m)
theorem pi_weak {tg e : Expr} {t t' : TI} (h : PI X tg e t) (w : ∀ σ H Q, t' σ H Q → t σ H Q) : PI X tg e t' := ⟨fun pins s σ H R I q => h.run pins s σ H R I (w σ H R q)⟩
def MS.loop (τ : Tgt) (b : MS) : List D → MS
  | [] => fun ρ => .nx ρ
  | d :: l => fun ρ => match τ.f d ρ with
    | some ρ1 => (b ρ1).turn (MS.loop τ b l)
    | none => .bad
def MS.for (τ : Tgt) (m : M (List D)) (b : MS) : MS := fun ρ => (m ρ).thn (MS.loop τ b)
theorem turn_post {r : RS} {k : MS} {N : St → Hp → Prop} (p : PostS X W G F (r.turn k) En) (h : ∀ σ' F' H' ρ', Le F F' → Rep X.K G F' H' ρ' σ' → PostS X W G F' (k ρ') En → N σ' H') : PostS X W G F r { En with nx := N, ct := N, bk := En.nx } := by
  cases r with
  | nx ρ' => exact fun σ' F' H' l r => h σ' F' H' ρ' l r (PostS.le l p)
  | ct ρ' => exact fun σ' F' H' l r => h σ' F' H' ρ' l r (PostS.le l p)
  | _ => exact p
theorem new_item {T : Addr} {vs : List V} (r : Rep X.K G F H ρ σ) (n : H T = none) : Le F (upd F T (.tup vs)) ∧ Rep X.K G (upd F T (.tup vs)) (upd H T (.tup vs)) ρ σ := ⟨leNew r n, r.newF n⟩
theorem drop_cons {α : Type} {l : List α} {i : Nat} {d : α} (h : l[i]? = some d) : l.drop i = d :: l.drop (i + 1) := by
  obtain ⟨hi, e⟩ := List.getElem?_eq_some_iff.mp h
  rw [List.drop_eq_getElem_cons hi, e]
theorem for_cont {τ : Tgt} {b : MS} {F1 H1 : Hp} {ρ1 : Ev} {σ : St} {l : List D} {J : It} (r1 : Rep X.K G F1 H1 ρ1 σ) (wk : Wk X.K F1 l J) (p1 : PostS X W G F1 (MS.loop τ b l ρ1) En) : tFor (fun _ H R => R J H) (τ.tg X.K) (tS X W G b) En σ H1 := by
  refine ⟨fun i n σ H => i ≤ l.length ∧ n = l.length - i ∧ ∃ F ρ, Le F1 F ∧ Rep X.K G F H ρ σ ∧ PostS X W G F (MS.loop τ b (l.drop i) ρ) En, ⟨l.length, Nat.zero_le _, rfl, F1, ρ1, Le.refl F1, r1, p1⟩, ?_⟩
  rintro i n σ2 H2 ⟨hi, rfl, F2, ρ2, l2, r2, p2⟩
  cases e : l[i]? with
  | none =>
    have hl := List.getElem?_eq_none_iff.mp e
    rw [List.drop_eq_nil_of_le hl] at p2
    exact .inl ⟨(wk F2 H2 l2 r2.sub i).2 hl, p2 σ2 F2 H2 (Le.refl F2) r2⟩
  | some d =>
    have hl := (List.getElem?_eq_some_iff.mp e).1
    obtain ⟨go, yl⟩ := (wk F2 H2 l2 r2.sub i).1 d e
    rw [drop_cons e] at p2
    unfold MS.loop at p2
    let N : St → Hp → Prop := fun σ' H' => ∃ n', n' < l.length - i ∧ (i + 1 ≤ l.length ∧ n' = l.length - (i + 1) ∧ ∃ F ρ, Le F1 F ∧ Rep X.K G F H' ρ σ' ∧ PostS X W G F (MS.loop τ b (l.drop (i + 1)) ρ) En)
    refine .inr ⟨go, N, fun σ' H' h => h, fun x H' hy => ?_⟩
    cases e2 : τ.f d ρ2 with
    | none => rw [e2] at p2; exact p2.elim
    | some ρ3 =>
      rw [e2] at p2
      have key : ∀ F3 H3, Le F2 F3 → Rep X.K G F3 H3 ρ2 σ2 → Rp X.K F3 d x → τ.tg X.K x σ2 H3 fun σ2 H2 => (tS X W G b) { En with nx := N, ct := N, bk := En.nx } σ2 H2 := fun F3 H3 l3 r3 q3 =>
        τ.read r3 q3 e2 fun σ' r' _ => ⟨F3, ρ3, r', turn_post (PostS.le l3 p2) fun σ4 F4 H4 ρ4 l4 r4 p4 => ⟨l.length - (i + 1), by omega, by omega, rfl, F4, ρ4, l2.trans (l3.trans l4), r4, p4⟩⟩
      rcases yl x H' hy with ⟨rfl, q⟩ | ⟨T, vs, n, rfl, q⟩ | ⟨T, vs, n, rfl, q⟩
      · exact key F2 _ (Le.refl F2) r2 q
      · obtain ⟨l3, r3⟩ := new_item (vs := vs) r2 n
        exact key _ _ l3 r3 q
      · obtain ⟨F3, l3, r3, f3, _⟩ := r2.addT n
        exact key F3 _ l3 r3 (q F3 l3 f3)
theorem sm_for {tg it : Expr} {body : List Stmt} {τ : Tgt} {m : M (List D)} {b : MS} (hp : PassesOwn (model X.prog X.w) X.A X.env X.xe) (hi : IM X W tg it m) (hg : TGM X tg τ) (hb : BM X W body b) (hc : X.calm = true := by rfl)
    (hs : ∀ x, foldedSetIterable it X.env x = pure x := by intro _; rfl) : SM X W (.For tg it body [] pos) (MS.for τ m b) := by
  exact fun G => ps_weak (ps_for hp hc (hi G) hg (hb G) hs) fun En σ H ⟨F, ρ, r, p⟩ => ⟨F, ρ, r, PostS.thn p fun J F1 H1 ρ1 l e l1 r1 wk p1 => for_cont r1 wk p1⟩
end
end Z
namespace Z
open PySem PySem.Spec L2
section
variable {X : Cx} {W : WX} {G : Gh} {F F' H : Hp} {σ : St} {ρ : Ev} {En : Ends} {α β : Type} {pos : Pos}
theorem pi_or {tg e : Expr} {t t' : TI} (h : PI X tg e t) (h' : PI X tg e t') : PI X tg e (fun σ H R => t σ H R ∨ t' σ H R) := ⟨fun pins s σ H R I q => q.elim (h.run pins s σ H R I) (h'.run pins s σ H R I)⟩
/-- the items of a list, a tuple, a text -/
def seqL : D → Option (List D)
  | .lst l => some l
  | .tup l => some l
  | .scr l => some l
  | .str s => some (s.map fun c => .str [c])
  | _ => none
def M.lift (f : D → Option α) (a : Va) : M α := (M.shr a).bind fun d => M.ofO fun _ => f d
def M.seq (m : M Va) : M (List D) := m.bind (M.lift seqL)
theorem wk_lst {K : Frag} {F1 : Hp} {l : List D} {a : Addr} {vs : List V} (h : SqL K F1 a vs) (q : Rps K F1 l vs) : Wk K F1 l (Itl K a) := fun F H le s i => by
  have le := le.r
  have sq : SqL K H a vs := sq_sub s (sq_le le h)
  refine ⟨fun d e => ?_, fun hl => ⟨vs, sq, by rw [← q.length]; exact hl⟩⟩
  obtain ⟨v, ev, r⟩ := Rps.get q e
  exact ⟨⟨vs, v, sq, ev⟩, fun x H' ⟨e1, e2⟩ => .inl ⟨e1, by have := e2 vs sq; rw [ev] at this; cases this; exact Rp.mono le _ _ r⟩⟩
theorem wk_tup {K : Frag} {F1 : Hp} {l : List D} {a : Addr} {vs : List V} (h : F1 a = some (.tup vs)) (q : Rps K F1 l vs) : Wk K F1 l (Itt K a) := fun F H le s i => by
  have le := le.r
  have sq : SqT K H a vs := SqT.of (s _ _ (le.fx _ _ h rfl))
  refine ⟨fun d e => ?_, fun hl => ⟨vs, sq, by rw [← q.length]; exact hl⟩⟩
  obtain ⟨v, ev, r⟩ := Rps.get q e
  exact ⟨⟨vs, v, sq, ev⟩, fun x H' ⟨e1, e2⟩ => .inl ⟨e1, by have := e2 vs sq; rw [ev] at this; cases this; exact Rp.mono le _ _ r⟩⟩
theorem wk_str {K : Frag} {F1 : Hp} (s : List Nat) : Wk K F1 (s.map fun c => .str [c]) (Its (S s)) := fun F H le sb i => by
  refine ⟨fun d e => ?_, fun hl => by show (S s).cps.size ≤ i; simpa [S] using hl⟩
  have hi : i < s.length := by have := (List.getElem?_eq_some_iff.mp e).1; simpa using this
  refine ⟨by show i < (S s).cps.size; simpa [S] using hi, fun x H' ⟨e1, c, e2, e3⟩ => .inl ⟨e1, ?_⟩⟩
  subst e3
  have e4 : s[i]? = some c := by simpa [S] using e2
  rw [List.getElem?_map, e4] at e
  cases e
  simp only [Rp, S]
theorem wk_rng {K : Frag} {F1 : Hp} (lo : Int) (n : Nat) : Wk K F1 ((List.range n).map fun (i : Nat) => .int (lo + i)) (Itr lo n) := fun F H le sb i => by
  have le := le.r
  refine ⟨fun d e => ?_, fun hl => by show n ≤ i; simpa using hl⟩
  have hi : i < n := by have := (List.getElem?_eq_some_iff.mp e).1; simpa using this
  refine ⟨hi, fun x H' ⟨e1, e2⟩ => .inl ⟨e1, ?_⟩⟩
  subst e2
  rw [List.getElem?_map, List.getElem?_range hi] at e
  cases e
  simp only [Rp]
theorem lift_post {γ : Type} {f : D → Option α} {a : Va} {v : V} {Res : Hp → Hp → Ev → α → γ → Prop} {Q : γ → Hp → Prop} (r : Rep X.K G F H ρ σ) (q : ResV X.K G σ F H ρ a v) (p : Post X W G F σ Res (M.lift f a ρ) Q) :
    ∃ F' d b ρ', Le F F' ∧ Rep X.K G F' H ρ' σ ∧ Rp X.K F' d v ∧ f d = some b ∧ ∀ v F2 H', Le F' F2 → Rep X.K G F2 H' ρ' σ → Res F2 H' ρ' b v → Q v H' := by
  unfold M.lift M.bind at p
  cases e : M.shr a ρ with
  | bad => rw [e] at p; exact p.elim
  | exc c d ρ' => exact absurd e shr_noexc
  | ok d ρ' =>
    rw [e] at p
    simp only [R.bind] at p
    obtain ⟨F1, l, r1, q1⟩ := shr_step r q e
    obtain ⟨b, e2, p2⟩ := ofO_post p
    exact ⟨F1, d, b, ρ', l, r1, q1, e2, fun v F2 H' l2 => p2 v F2 H' (l.trans l2)⟩
theorem im_seq {tg e : Expr} {m : M Va} (h : EM X W e m) : IM X W tg e (M.seq m) := fun G => pi_weak (pi_or (pi_list (h G)) (pi_or (pi_tup (h G)) (pi_str (h G)))) fun σ H Rr ⟨F, ρ, r, p⟩ => by
  unfold M.seq M.bind at p
  cases e0 : m ρ with
  | bad => rw [e0] at p; exact p.elim
  | exc c d ρ' => rw [e0] at p; exact .inl ⟨F, ρ, r, by rw [e0]; exact p⟩
  | ok a ρ1 =>
    -- what kind of thing it is
    have kind : ∀ d ρ2, M.shr a ρ1 = .ok d ρ2 → ∀ F1 H1 v, Le F F1 → Rep X.K G F1 H1 ρ1 σ → ResV X.K G σ F1 H1 ρ1 a v → ∃ F2, Rep X.K G F2 H1 ρ2 σ ∧ Rp X.K F2 d v ∧ ∃ l, seqL d = some l ∧ ∀ J, Wk X.K F2 l J → Rr J H1 := fun d ρ2 es F1 H1 v l1 r1 q1 => by
      rw [e0] at p
      simp only [R.bind, M.lift, M.bind] at p
      rw [es] at p
      simp only [R.bind] at p
      obtain ⟨F2, l2, r2, q2⟩ := shr_step r1 q1 es
      obtain ⟨l, e2, k⟩ := ofO_post p
      exact ⟨F2, r2, q2, l, e2, fun J wk => k J F2 H1 (l1.trans l2) r2 wk⟩
    cases es : M.shr a ρ1 with
    | bad => rw [e0] at p; simp only [R.bind, M.lift, M.bind] at p; rw [es] at p; exact p.elim
    | exc c d ρ' => exact absurd es shr_noexc
    | ok d ρ2 =>
      have go : ∀ (T : V → Hp → Prop), (∀ F2 H1 v l, Rep X.K G F2 H1 ρ2 σ → Rp X.K F2 d v → seqL d = some l → (∀ J, Wk X.K F2 l J → Rr J H1) → T v H1) → tG X W G (ResV X.K G) m σ H T := fun T hT => by
        refine ⟨F, ρ, r, ?_⟩
        rw [e0]
        intro v F1 H1 l1 r1 q1
        obtain ⟨F2, r2, q2, l, e2, k⟩ := kind d ρ2 es F1 H1 v l1 r1 q1
        exact hT F2 H1 v l r2 q2 e2 k
      cases d with
      | lst l' => exact .inl (go _ fun F2 H1 v l r2 q2 e2 k => by
          cases e2
          simp only [Rp] at q2
          obtain ⟨x, vs, rfl, h1, q2⟩ := q2
          exact ⟨x, rfl, ⟨vs, .inl (.inl (r2.sub _ _ h1))⟩, k _ (wk_lst (SqL.of h1) q2)⟩)
      | scr l' => exact .inl (go _ fun F2 H1 v l r2 q2 e2 k => by
          cases e2
          simp only [Rp] at q2
          obtain ⟨x, vs, rfl, h1, q2⟩ := q2
          exact ⟨x, rfl, ⟨vs, sq_sub r2.sub h1⟩, k _ (wk_lst h1 q2)⟩)
      | tup l' => exact .inr (.inl (go _ fun F2 H1 v l r2 q2 e2 k => by
          cases e2
          simp only [Rp] at q2
          obtain ⟨x, vs, rfl, h1, q2⟩ := q2
          exact ⟨x, rfl, ⟨vs, SqT.of (r2.sub _ _ h1)⟩, k _ (wk_tup h1 q2)⟩))
      | str s => exact .inr (.inr (go _ fun F2 H1 v l r2 q2 e2 k => by
          cases e2
          simp only [Rp] at q2
          exact ⟨S s, q2, k _ (wk_str s)⟩))
      | _ => exact .inl (go _ fun F2 H1 v l r2 q2 e2 k => by cases e2)
/-- range(a), range(a, b) -/
def rngL (lo hi : Int) : List D := (List.range (hi - lo).toNat).map fun (i : Nat) => .int (lo + i)
noncomputable def lim62 (i : Int) : Bool := @decide (-4611686018427387904 ≤ i ∧ i < 4611686018427387904) (Classical.propDecidable _)
theorem lim62_ok {i : Int} (h : -4611686018427387904 ≤ i) (h' : i < 4611686018427387904) : lim62 i = true := @decide_eq_true _ (Classical.propDecidable _) ⟨h, h'⟩
theorem lim62_of {i : Int} (h : lim62 i = true) : -(2 ^ 62) ≤ i ∧ i < 2 ^ 62 := by
  have := @of_decide_eq_true _ (Classical.propDecidable _) h
  have e : (2 : Int) ^ 62 = 4611686018427387904 := by decide
  rw [e]; exact this
noncomputable def rngD1 : List D → Option (List D)
  | [.int j] => if lim62 j then some (rngL 0 j) else none
  | _ => none
noncomputable def rngD2 : List D → Option (List D)
  | [.int i, .int j] => if lim62 i && lim62 j then some (rngL i j) else none
  | _ => none
def M.args (f : List D → Option α) (ms : M (List Va)) : M α := ms.bind fun l => (M.shrs l).bind fun ds => M.ofO fun _ => f ds
/-- the arguments as shared data -/
theorem shrs_post {γ : Type} {f : List D → Option α} {as : List Va} {vs : List V} {Res : Hp → Hp → Ev → α → γ → Prop} {Q : γ → Hp → Prop} (r : Rep X.K G F H ρ σ) (q : ResL X.K G σ F H ρ as vs) (p : Post X W G F σ Res (((M.shrs as).bind fun ds => M.ofO fun _ => f ds) ρ) Q) :
    ∃ F' ds b ρ', Le F F' ∧ Rep X.K G F' H ρ' σ ∧ Rps X.K F' ds vs ∧ f ds = some b ∧ ∀ v F2 H', Le F' F2 → Rep X.K G F2 H' ρ' σ → Res F2 H' ρ' b v → Q v H' := by
  unfold M.bind at p
  cases e : M.shrs as ρ with
  | bad => rw [e] at p; exact p.elim
  | exc c d ρ' => exact absurd e shrs_noexc
  | ok ds ρ' =>
    rw [e] at p
    simp only [R.bind] at p
    obtain ⟨F1, l, r1, q1⟩ := shrs_step r q e
    obtain ⟨b, e2, p2⟩ := ofO_post p
    exact ⟨F1, ds, b, ρ', l, r1, q1, e2, fun v F2 H' l2 => p2 v F2 H' (l.trans l2)⟩
theorem im_rng1 {tg a : Expr} {p : Pos} {ms : M (List Va)} (hm : X.mg "range" = none) (h : AM X W [a] ms) (hg : Gl X "range" := by rfl) (hs : starEach [a] X.env = [(false, eval a X.env)] := by rfl) : IM X W tg (.Call (.Name "range" p) [a] [] pos) (M.args rngD1 ms) := fun G => pi_weak (pi_range1 hg hm (h G) hs) fun σ H Rr ⟨F, ρ, r, p⟩ =>
  ⟨F, ρ, r, Post.bind p fun vs F1 H1 ρ1 as e l r1 q p1 => by
    obtain ⟨F2, ds, b, ρ2, l2, r2, q2, e2, k⟩ := shrs_post r1 q p1
    unfold rngD1 at e2
    split at e2
    · rename_i j
      split at e2
      · rename_i z
        cases e2
        obtain ⟨v, vs', rfl, h1, h2⟩ := q2.cases1
        simp only [Rps] at h2; subst h2
        simp only [Rp] at h1; subst h1
        obtain ⟨b1, b2⟩ := lim62_of z
        refine ⟨j, rfl, b1, b2, k _ F2 H1 (Le.refl F2) r2 ?_⟩
        have := wk_rng (K := X.K) (F1 := F2) 0 j.toNat
        have e : (j - 0).toNat = j.toNat := by omega
        unfold rngL; rw [e]; exact this
      · cases e2
    · cases e2⟩
inductive RF where
  | ok (s : Va) (o : Ev) | exc (c : String) (d : D) (o : Ev) | bad
abbrev Fn := Ev → RF
def RS.fin (n : Nat) : RS → RF
  | .ret s ρ => .ok s (ρ.take n)
  | .nx ρ => .ok (.sh .non) (ρ.take n)
  | .exc c d ρ => .exc c d (ρ.take n)
  | _ => .bad
def Fn.of (N : Nat) (m : MS) : Fn := fun ins => (m (ins ++ List.replicate (N - ins.length) .no)).fin ins.length
def RF.nox : RF → RF
  | .exc _ _ _ => .bad
  | r => r
def Fn.nox (f : Fn) : Fn := fun ins => (f ins).nox
/-- at a def's entry -/
def Gh.at (F H : Hp) (ins : Ev) (vs : List V) : Gh := ⟨F, H, vs.map some, fun a => ∃ (i : Nat) (p l : Bool) (d : D), ins[i]? = some (Sl.ow p l d) ∧ vs[i]? = some (V.ref a), fun a => H a = none, fun _ => False, fun _ => none⟩
def PostF (K : Frag) (mg : Str → Option Value) (G : Gh) (F : Hp) (r : RF) (Q : VK) (E : XK) : Prop := match r with
  | .ok s o => ∀ v σ' F' H', Le F F' → Rep K G F' H' o σ' → ResV K G σ' F' H' o s v → (∀ i, s ≠ .at i) → Q v H'
  | .exc c d o => ∀ cls dd σ' F' H', Le F F' → Rep K G F' H' o σ' → XV K mg F' c d cls dd → E cls dd H'
  | .bad => False
/-- a def's promise: it computes f -/
def spM (K : Frag) (mg : Str → Option Value) (np : Nat) (f : Fn) : Sp := fun vs H Q E => vs.length = np ∧ ∃ F ins, Rep K (Gh.at F H ins vs) F H ins (vs.map some) ∧ PostF K mg (Gh.at F H ins vs) F (f ins) Q E
theorem spM_len {K : Frag} {mg : Str → Option Value} {np : Nat} {f : Fn} {ps : List Str} (h : ps.length = np) : ∀ vs H Q E, spM K mg np f vs H Q E → vs.length = ps.length := fun vs H Q E q => by rw [h]; exact q.1
theorem Rep.take {K : Frag} (n : Nat) (r : Rep K G F H ρ σ) : Rep K G F H (ρ.take n) (σ.take n) where
  gok := r.gok
  sub := r.sub
  len := by rw [List.length_take, List.length_take, r.len]
  ok := fun i s ov e1 e2 => by
    rw [List.getElem?_take] at e1 e2
    split at e1
    · rename_i z; rw [if_pos z] at e2; exact r.ok i s ov e1 e2
    · cases e1
  inj := fun i j a w1 w2 => by
    have f : ∀ i, OwnAt (ρ.take n) (σ.take n) i a → OwnAt ρ σ i a := fun i ⟨p, l, d, e1, e2⟩ => by
      rw [List.getElem?_take] at e1 e2
      split at e1
      · rename_i z; rw [if_pos z] at e2; exact ⟨p, l, d, e1, e2⟩
      · cases e1
    exact r.inj i j a (f i w1) (f j w2)
  go := r.go
  tab := r.tab
  ntb := r.ntb
theorem own_take {n i : Nat} {a : Addr} (w : OwnAt (ρ.take n) (σ.take n) i a) : OwnAt ρ σ i a := by
  obtain ⟨p, l, d, e1, e2⟩ := w
  rw [List.getElem?_take] at e1 e2
  split at e1
  · rename_i z; rw [if_pos z] at e2; exact ⟨p, l, d, e1, e2⟩
  · cases e1
theorem ResV.take {K : Frag} {s : Va} {v : V} {n : Nat} (h : ResV K G σ F H ρ s v) (na : ∀ i, s ≠ .at i) : ResV K G (σ.take n) F H (ρ.take n) s v := by
  cases s with
  | sh d => exact h
  | «at» i => exact absurd rfl (na i)
  | nw d =>
    obtain ⟨a, e, n', q, nf, g, w⟩ := h
    exact ⟨a, e, n', q, nf, g, fun i x => w i (own_take x)⟩
theorem getElem?_rep {α : Type} (n : Nat) (a : α) (i : Nat) (b : α) (h : (List.replicate n a)[i]? = some b) : b = a := by
  rw [List.getElem?_replicate] at h
  split at h
  · cases h; rfl
  · cases h
theorem own_ext {k m i : Nat} {a : Addr} (hl : ρ.length = σ.length) (w : OwnAt (ρ ++ List.replicate k .no) (σ ++ List.replicate m none) i a) : OwnAt ρ σ i a := by
  obtain ⟨p, l, d, e1, e2⟩ := w
  by_cases h : i < ρ.length
  · rw [List.getElem?_append_left h] at e1
    rw [List.getElem?_append_left (by rw [← hl]; exact h)] at e2
    exact ⟨p, l, d, e1, e2⟩
  · rw [List.getElem?_append_right (Nat.le_of_not_lt h)] at e1
    have := getElem?_rep _ _ _ _ e1
    cases this
theorem Rep.ext {K : Frag} (k : Nat) (r : Rep K G F H ρ σ) : Rep K G F H (ρ ++ List.replicate k .no) (σ ++ List.replicate k none) where
  gok := r.gok
  sub := r.sub
  len := by simp [r.len]
  ok := fun i s ov e1 e2 => by
    by_cases h : i < ρ.length
    · rw [List.getElem?_append_left h] at e1
      rw [List.getElem?_append_left (by rw [← r.len]; exact h)] at e2
      exact r.ok i s ov e1 e2
    · rw [List.getElem?_append_right (Nat.le_of_not_lt h)] at e1
      cases getElem?_rep _ _ _ _ e1
      trivial
  inj := fun i j a w1 w2 => r.inj i j a (own_ext r.len w1) (own_ext r.len w2)
  go := r.go
  tab := r.tab
  ntb := r.ntb
/-- a def's body -/
theorem body_ok {body : List Stmt} {m : MS} {N : List Str} {vs : List V} {Q : VK} {E : XK} {np : Nat} (hb : BM X W body m) (hx : ∀ cls dd σ H, E cls dd H → W cls dd σ H) (h : spM X.K X.mg np (Fn.of N.length m) vs H Q E) :
    ∃ t, PSs X body t ∧ t { nx := fun _ H' => Q .non H', rt := Q } (L2.start N vs) H := by
  obtain ⟨hl, F, ins, r, p⟩ := h
  have hi : ins.length = vs.length := by have := r.len; simpa using this
  refine ⟨tS X W (Gh.at F H ins vs) m, hb _, F, ins ++ List.replicate (N.length - ins.length) .no, ?_, ?_⟩
  · unfold L2.start; rw [← hi]; exact r.ext _
  · unfold Fn.of at p
    generalize m (ins ++ List.replicate (N.length - ins.length) .no) = x at p ⊢
    cases x with
    | nx ρ' => exact fun σ' F' H' l r' => p .non (σ'.take ins.length) F' H' l (r'.take _) (by simp only [ResV, Rp]) (fun i z => by cases z)
    | ret s ρ' => exact fun v σ' F' H' l r' q na => p v (σ'.take ins.length) F' H' l (r'.take _) (q.take na) na
    | exc c d ρ' => exact fun cls dd σ' F' H' l r' q => hx _ _ _ _ (p cls dd (σ'.take ins.length) F' H' l (r'.take _) q)
    | bk ρ' => exact p.elim
    | ct ρ' => exact p.elim
    | bad => exact p.elim
/-- .. that raises nothing -/
theorem body_nox {body : List Stmt} {m : MS} {N : List Str} {vs : List V} {Q : VK} {E : XK} {np : Nat} (hb : BM X (fun _ _ _ _ => False) body m) (h : spM X.K X.mg np (Fn.of N.length m).nox vs H Q E) :
    ∃ t, PSs X body t ∧ t { nx := fun _ H' => Q .non H', rt := Q } (L2.start N vs) H := by
  refine body_ok (E := E0) (np := np) hb (fun _ _ _ _ z => z) ?_
  obtain ⟨hl, F, ins, r, p⟩ := h
  refine ⟨hl, F, ins, r, ?_⟩
  unfold Fn.nox at p
  cases e : Fn.of N.length m ins with
  | ok s o => rw [e] at p; exact p
  | exc c d o => rw [e] at p; exact p.elim
  | bad => rw [e] at p; exact p.elim
def inOf (ρ : Ev) : Va → Option Sl
  | .sh d => some (.sh true d)
  | .nw _ => none
  | .at i => match ρ[i]? with
    | some (.sh _ d) => some (.sh true d)
    | some (.ow _ false d) => some (.ow true false d)
    | _ => none
def insOf (ρ : Ev) : List Va → Option Ev
  | [] => some []
  | a :: as => (inOf ρ a).bind fun s => (insOf ρ as).bind fun l => some (s :: l)
def atIn (i : Nat) : List Va → Bool
  | [] => false
  | .at j :: as => i == j || atIn i as
  | _ :: as => atIn i as
def nodupAt : List Va → Bool
  | [] => true
  | .at i :: as => !atIn i as && nodupAt as
  | _ :: as => nodupAt as
def findAt (j : Nat) : List Va → Ev → Option Sl
  | [], _ => none
  | .at i :: as, o => if i = j then some (o.headD .no) else findAt j as o.tail
  | _ :: as, o => findAt j as o.tail
def newSl (p : Bool) : Option Sl → Sl → Sl
  | none, s => s
  | some (.ow true false d), _ => .ow p false d
  | some (.sh true d), _ => .sh p d
  | _, _ => .no
def newAt (as : List Va) (o : Ev) (j : Nat) : Sl → Sl
  | .ow p false d => newSl p (findAt j as o) (.ow p false d)
  | s => s
def updS (as : List Va) (o : Ev) : Nat → Ev → Ev
  | _, [] => []
  | j, s :: r => newAt as o j s :: updS as o (j + 1) r
def M.app (f : Fn) (as : List Va) : M Va := fun ρ => if nodupAt as then match insOf ρ as with
  | none => .bad
  | some ins => match f ins with
    | .ok s o => .ok s (updS as o 0 ρ)
    | .exc c d o => .exc c d (updS as o 0 ρ)
    | .bad => .bad
  else .bad
def M.call (f : Fn) (ms : M (List Va)) : M Va := ms.bind (M.app f)
theorem updS_get (as : List Va) (o : Ev) : ∀ (k : Nat) (ρ : Ev) (j : Nat), (updS as o k ρ)[j]? = ρ[j]?.map (newAt as o (k + j))
  | _, [], _ => by simp [updS]
  | k, s :: r, 0 => by simp [updS]
  | k, s :: r, j + 1 => by
    have := updS_get as o (k + 1) r j
    simp only [updS, List.getElem?_cons_succ]
    rw [this, show k + 1 + j = k + (j + 1) by omega]
theorem updS_len (as : List Va) (o : Ev) : ∀ (k : Nat) (ρ : Ev), (updS as o k ρ).length = ρ.length
  | _, [] => rfl
  | k, s :: r => by simp [updS, updS_len as o (k + 1) r]
theorem insOf_get : ∀ {as : List Va} {ins : Ev} (i : Nat) {s : Sl}, insOf ρ as = some ins → ins[i]? = some s → ∃ a, as[i]? = some a ∧ inOf ρ a = some s
  | [], ins, i, s, h, e => by cases h; simp at e
  | a :: as, ins, i, s, h, e => by
    obtain ⟨s0, e0, h⟩ := bind_some h
    obtain ⟨l, e1, h⟩ := bind_some h
    cases h
    cases i with
    | zero => simp at e; subst e; exact ⟨a, rfl, e0⟩
    | succ i => exact insOf_get (as := as) i e1 (by simpa using e)
theorem insOf_len : ∀ {as : List Va} {ins : Ev}, insOf ρ as = some ins → ins.length = as.length
  | [], ins, h => by cases h; rfl
  | a :: as, ins, h => by
    obtain ⟨s0, e0, h⟩ := bind_some h
    obtain ⟨l, e1, h⟩ := bind_some h
    cases h
    simp [insOf_len e1]
theorem resL_get {K : Frag} : ∀ {as : List Va} {vs : List V} (i : Nat) {a : Va}, ResL K G σ F H ρ as vs → as[i]? = some a → ∃ v, vs[i]? = some v ∧ (∀ d, a ≠ .nw d) ∧ ResV K G σ F H ρ a v
  | [], _, i, a, _, e => by simp at e
  | a :: as, _, i, b, ⟨v, r, ev, n, h1, h2⟩, e => by
    subst ev
    cases i with
    | zero => simp at e; subst e; exact ⟨v, rfl, n, h1⟩
    | succ i => simpa using resL_get (as := as) i h2 (by simpa using e)
theorem resL_len {K : Frag} : ∀ {as : List Va} {vs : List V}, ResL K G σ F H ρ as vs → as.length = vs.length
  | [], _, h => by have h : _ = [] := h; subst h; rfl
  | a :: as, _, ⟨v, r, ev, n, h1, h2⟩ => by subst ev; simp [resL_len h2]
theorem atIn_of : ∀ {as : List Va} {j : Nat} {i : Nat}, as[j]? = some (.at i) → atIn i as = true
  | [], j, i, e => by simp at e
  | a :: as, 0, i, e => by simp at e; subst e; simp [atIn]
  | a :: as, j + 1, i, e => by
    have := atIn_of (as := as) (j := j) (i := i) (by simpa using e)
    cases a <;> simp [atIn, this]
theorem nodupAt_inj : ∀ {as : List Va} {i j k : Nat}, nodupAt as = true → as[i]? = some (.at k) → as[j]? = some (.at k) → i = j
  | [], i, j, k, _, e, _ => by simp at e
  | a :: as, 0, 0, k, _, _, _ => rfl
  | a :: as, 0, j + 1, k, h, e1, e2 => by
    simp at e1; subst e1
    have := atIn_of (as := as) (j := j) (i := k) (by simpa using e2)
    simp [nodupAt, this] at h
  | a :: as, i + 1, 0, k, h, e1, e2 => by
    simp at e2; subst e2
    have := atIn_of (as := as) (j := i) (i := k) (by simpa using e1)
    simp [nodupAt, this] at h
  | a :: as, i + 1, j + 1, k, h, e1, e2 => by
    have h' : nodupAt as = true := by
      cases a with
      | «at» x => simp only [nodupAt, Bool.and_eq_true] at h; exact h.2
      | _ => exact h
    have := nodupAt_inj (i := i) (j := j) (k := k) h' (by simpa using e1) (by simpa using e2)
    rw [this]
theorem findAt_some : ∀ {as : List Va} {o : Ev} {j : Nat} {s : Sl}, findAt j as o = some s → ∃ i : Nat, as[i]? = some (.at j) ∧ (o[i]? = some s ∨ s = .no)
  | [], o, j, s, h => by simp [findAt] at h
  | a :: as, o, j, s, h => by
    have step : findAt j as o.tail = some s → ∃ i : Nat, (a :: as)[i]? = some (.at j) ∧ (o[i]? = some s ∨ s = .no) := fun h => by
      obtain ⟨i, h1, h2⟩ := findAt_some h
      refine ⟨i + 1, by simpa using h1, ?_⟩
      cases o with
      | nil => rcases h2 with h2 | h2
               · simp at h2
               · exact .inr h2
      | cons t o => simpa using h2
    cases a with
    | «at» k =>
      simp only [findAt] at h
      split at h
      · rename_i z; subst z; cases h
        refine ⟨0, rfl, ?_⟩
        cases o with
        | nil => exact .inr rfl
        | cons t o => exact .inl rfl
      · exact step h
    | sh d => exact step h
    | nw d => exact step h
theorem findAt_none : ∀ {as : List Va} {o : Ev} {j : Nat}, findAt j as o = none → ∀ i : Nat, as[i]? ≠ some (.at j)
  | [], o, j, _, i => by simp
  | a :: as, o, j, h, i => by
    cases a with
    | «at» k =>
      simp only [findAt] at h
      split at h
      · cases h
      · rename_i z
        cases i with
        | zero => intro e; simp at e; exact z e
        | succ i => simpa using findAt_none h i
    | sh d => cases i with
      | zero => intro e; simp at e
      | succ i => have := findAt_none (as := as) (o := o.tail) h i; simpa using this
    | nw d => cases i with
      | zero => intro e; simp at e
      | succ i => have := findAt_none (as := as) (o := o.tail) h i; simpa using this
/-- the caller's state gives the callee's -/
theorem enter {as : List Va} {vs : List V} {ins : Ev} (r : Rep X.K G F H ρ σ) (q : ResL X.K G σ F H ρ as vs) (nd : nodupAt as = true) (e : insOf ρ as = some ins) : Rep X.K (Gh.at F H ins vs) F H ins (vs.map some) where
  gok := fun a h => ⟨h, id⟩
  sub := r.sub
  len := by rw [insOf_len e, resL_len q]; simp
  ok := fun i s ov e1 e2 => by
    obtain ⟨a, ea, es⟩ := insOf_get i e e1
    obtain ⟨v, ev, na, qv⟩ := resL_get i q ea
    rw [List.getElem?_map, ev] at e2
    cases e2
    have ew : (vs.map some)[i]? = some (some v) := by rw [List.getElem?_map, ev]; rfl
    cases a with
    | sh d => cases es; exact ⟨⟨v, rfl, qv⟩, fun _ => ew.symm⟩
    | nw d => cases es
    | «at» j =>
      have qv : σ[j]? = some (some v) := qv
      simp only [inOf] at es
      split at es
      · rename_i p d hj
        cases es
        obtain ⟨ov, e3, ⟨w, rfl, q3⟩, _⟩ := r.val hj
        rw [qv] at e3; cases e3
        exact ⟨⟨_, rfl, q3⟩, fun _ => ew.symm⟩
      · rename_i p d hj
        cases es
        obtain ⟨ov, e3, a, rfl, n, qq, b0, b1, b2, b3, b4⟩ := r.val hj
        rw [qv] at e3; cases e3
        exact ⟨a, rfl, n, qq, id, fun _ => ⟨ew.symm, i, true, false, d, e1, ev⟩, (fun z => by cases z), (fun _ => b3 rfl), (fun z => by cases z)⟩
      · cases es
  inj := fun i j a w1 w2 => by
    have f : ∀ i, OwnAt ins (vs.map some) i a → ∃ k, as[i]? = some (.at k) ∧ OwnAt ρ σ k a := fun i ⟨p, l, d, e1, e2⟩ => by
      obtain ⟨b, ea, es⟩ := insOf_get i e e1
      obtain ⟨v, ev, na, qv⟩ := resL_get i q ea
      rw [List.getElem?_map, ev] at e2
      cases e2
      cases b with
      | sh d => cases es
      | nw d => cases es
      | «at» k =>
        simp only [inOf] at es
        split at es
        · cases es
        · rename_i p' d' hj
          exact ⟨k, ea, p', false, d', hj, qv⟩
        · cases es
    obtain ⟨k1, a1, o1⟩ := f i w1
    obtain ⟨k2, a2, o2⟩ := f j w2
    have := r.inj k1 k2 a o1 o2
    subst this
    exact nodupAt_inj nd a1 a2
  go := Go.refl
  tab := r.tab
  ntb := r.ntb
/-- .. and back -/
theorem leave {as : List Va} {vs : List V} {ins o : Ev} {σ' : St} (r : Rep X.K G F H ρ σ) (q : ResL X.K G σ F H ρ as vs) (nd : nodupAt as = true) (e : insOf ρ as = some ins) (r' : Rep X.K (Gh.at F H ins vs) F' H' o σ') : Rep X.K G F' H' (updS as o 0 ρ) σ := by
  have parOwn : ∀ a, (Gh.at F H ins vs).own a → H a ≠ none → ∃ k, atIn k as = true ∧ OwnAt ρ σ k a := fun a ⟨_, w⟩ hn => by
    rcases w with ⟨i, p, l, d, e1, e2⟩ | w
    · obtain ⟨b, ea, es⟩ := insOf_get i e e1
      obtain ⟨v, ev, na, qv⟩ := resL_get i q ea
      rw [e2] at ev; cases ev
      cases b with
      | sh d => cases es
      | nw d => cases es
      | «at» k =>
        simp only [inOf] at es
        split at es
        · cases es
        · rename_i p' d' hj
          exact ⟨k, atIn_of ea, p', false, d', hj, qv⟩
        · cases es
    · exact absurd w hn
  have le : Le F F' := r'.go.fr
  -- what is not lent stays
  have stay : ∀ j a, OwnAt ρ σ j a → atIn j as = false → H' a = H a ∧ F' a = none := fun j a w hj => by
    obtain ⟨n, ⟨ob, hb⟩, _⟩ := r.ownAt w
    obtain ⟨h1, h2⟩ := r'.go.keep a ob hb n (fun z => by
      obtain ⟨k, hk, wk⟩ := parOwn a z (by show H a ≠ none; rw [hb]; simp)
      have := r.inj j k a w wk
      subst this
      rw [hj] at hk; cases hk) (r.ownAtT w hb).1
    exact ⟨by rw [h1]; exact hb.symm, h2⟩
  refine ⟨r.gok, r'.sub, by rw [updS_len]; exact r.len, fun j s ov e1 e2 => ?_, fun i j a w1 w2 => ?_, r.go.trans r'.go fun c oc h1 h2 h3 => ?_, r'.tab, r'.ntb⟩
  · rw [updS_get, Nat.zero_add] at e1
    cases e3 : ρ[j]? with
    | none => rw [e3] at e1; cases e1
    | some s0 =>
      rw [e3] at e1
      have e1 : newAt as o j s0 = s := by simpa using e1
      have ok := r.ok j s0 ov e3 e2
      cases s0 with
      | no => subst e1; trivial
      | sh p d =>
        subst e1
        obtain ⟨⟨v, ev, qv⟩, p1⟩ := ok
        exact ⟨⟨v, ev, Rp.mono le.r _ _ qv⟩, p1⟩
      | ow p l d =>
        obtain ⟨a, rfl, n, qq, b0, b1, b2, b3, b4⟩ := ok
        have w : OwnAt ρ σ j a := ⟨p, l, d, e3, e2⟩
        have same : atIn j as = false → SlOk X.K G F' H' j (.ow p l d) (some (.ref a)) := fun hj => by
          obtain ⟨h1, h2⟩ := stay j a w hj
          exact ⟨a, rfl, h2, qq.mono le.r h1.symm, b0, b1, b2, (fun z ob u => by rw [h1]; exact b3 z ob u), b4⟩
        cases l with
        | true =>
          subst e1
          refine same ?_
          cases hj : atIn j as with
          | false => rfl
          | true =>
            exfalso
            -- a locked slot is not lent
            have : ∀ as' : List Va, (∃ ins', insOf ρ as' = some ins') → atIn j as' = false := fun as' => by
              induction as' with
              | nil => intro _; rfl
              | cons b bs ih =>
                rintro ⟨ins', h⟩
                obtain ⟨s0, x1, h⟩ := bind_some h
                obtain ⟨l0, x2, h⟩ := bind_some h
                have i2 := ih ⟨l0, x2⟩
                cases b with
                | «at» k =>
                  simp only [atIn, i2, Bool.or_false]
                  cases z : (j == k) with
                  | false => rfl
                  | true =>
                    have z := eq_of_beq z
                    subst z
                    simp only [inOf, e3] at x1
                    cases x1
                | sh d => exact i2
                | nw d => exact i2
            rw [this as ⟨ins, e⟩] at hj; cases hj
        | false =>
          simp only [newAt] at e1
          cases ef : findAt j as o with
          | none =>
            rw [ef] at e1
            subst e1
            refine same ?_
            cases hj : atIn j as with
            | false => rfl
            | true =>
              exfalso
              have hn := findAt_none ef
              have : ∀ bs : List Va, (∀ i : Nat, bs[i]? ≠ some (.at j)) → atIn j bs = false := fun bs => by
                induction bs with
                | nil => intro _; rfl
                | cons b bs ih =>
                  intro h
                  have i2 := ih fun i => by simpa using h (i + 1)
                  cases b with
                  | «at» k =>
                    simp only [atIn, i2, Bool.or_false]
                    cases z : (j == k) with
                    | false => rfl
                    | true => have z := eq_of_beq z; subst z; exact absurd rfl (h 0)
                  | sh d => exact i2
                  | nw d => exact i2
              rw [this as hn] at hj; cases hj
          | some t =>
            rw [ef] at e1
            obtain ⟨i, ai, oi⟩ := findAt_some ef
            rcases oi with oi | oi
            case inr => subst oi; subst e1; trivial
            obtain ⟨v, ev, na, qv⟩ := resL_get i q ai
            have qv : σ[j]? = some (some v) := qv
            rw [e2] at qv; cases qv
            have ew : (Gh.at F H ins vs).σ[i]? = some (some (.ref a)) := by show (vs.map some)[i]? = _; rw [List.getElem?_map, ev]; rfl
            cases t with
            | no => subst e1; trivial
            | sh p' d' => cases p' with
              | false => subst e1; trivial
              | true =>
                subst e1
                obtain ⟨ov', h1, ⟨w', rfl, qw⟩, pw⟩ := r'.val oi
                have := pw rfl
                rw [ew] at this
                cases this
                exact ⟨⟨_, rfl, qw⟩, fun z => (b1 z).1⟩
            | ow p' l' d' => cases p' with
              | false => subst e1; trivial
              | true => cases l' with
                | true => subst e1; trivial
                | false =>
                  subst e1
                  obtain ⟨ov', h1, a', rfl, n', qq', c0, c1, c2, c3, c4⟩ := r'.val oi
                  have := (c1 rfl).1
                  rw [ew] at this
                  cases this
                  exact ⟨a, rfl, n', qq', b0, b1, b2, (fun _ => c3 rfl), (fun z => by cases z)⟩
  · have f : ∀ j, OwnAt (updS as o 0 ρ) σ j a → OwnAt ρ σ j a := fun j ⟨p, l, d, e1, e2⟩ => by
      rw [updS_get] at e1
      cases e3 : ρ[j]? with
      | none => rw [e3] at e1; cases e1
      | some s0 => cases s0 with
        | no => rw [e3] at e1; simp [newAt] at e1
        | sh p d => rw [e3] at e1; simp [newAt] at e1
        | ow p l d => exact ⟨p, l, d, e3, e2⟩
    exact r.inj i j a (f i w1) (f j w2)
  · obtain ⟨k, _, wk⟩ := parOwn c h3 (r.go.dom c (by rw [h1]; simp))
    exact (r.ownAt wk).2.2
theorem app_post {f : Fn} {as : List Va} {vs : List V} {Q : VK} {np : Nat} {E : XK} (r : Rep X.K G F H ρ σ) (q : ResL X.K G σ F H ρ as vs) (hn : as.length = np) (hE : ∀ cls dd H, W cls dd σ H → E cls dd H) (p : Post X W G F σ (ResV X.K G σ) (M.app f as ρ) Q) : spM X.K X.mg np f vs H Q E := by
  unfold M.app at p
  split at p
  · rename_i nd
    cases e : insOf ρ as with
    | none => rw [e] at p; exact p.elim
    | some ins =>
      rw [e] at p
      refine ⟨by rw [← resL_len q]; exact hn, F, ins, enter r q nd e, ?_⟩
      dsimp only at p
      cases ef : f ins with
      | bad => rw [ef] at p; exact p.elim
      | exc c d o => rw [ef] at p; exact fun cls dd σ' F' H' l r' x => hE _ _ _ (p cls dd F' H' l (leave r q nd e r') x)
      | ok s o =>
        rw [ef] at p
        intro v σ' F' H' l r' rv na
        refine p v F' H' l (leave r q nd e r') ?_
        cases s with
        | sh d => exact rv
        | «at» i => exact absurd rfl (na i)
        | nw d =>
          obtain ⟨a, rfl, n, qq, nf, g, w⟩ := rv
          have hHa : H a = none := g.1
          refine ⟨a, rfl, n, qq, nf, r.fresh hHa, fun i ⟨p', l', d', e1, e2⟩ => ?_⟩
          rw [updS_get] at e1
          cases e3 : ρ[i]? with
          | none => rw [e3] at e1; cases e1
          | some s0 => cases s0 with
            | no => rw [e3] at e1; simp [newAt] at e1
            | sh p d => rw [e3] at e1; simp [newAt] at e1
            | ow p l d => exact r.notOwn hHa i ⟨p, l, d, e3, e2⟩
  · exact p.elim
/-- f(..), f raises nothing -/
theorem em_call {f : Fn} {ms : M (List Va)} {x : Str} {p : Pos} {e : Expr} {es : List Expr} {k : Nat} {fa : Addr} {fd : FuncData} {ps : List Str} (F : FnOk X.prog X.w X.K X.mg X.base CX0 k fa fd ps (spM X.K X.mg ps.length f.nox)) (hr : Room k X.A) (hm : X.mg x = some (.ref fa)) (hk : PySem.W.keepIn X.K (.ref fa) = true)
    (hb : Binds X.K fd ps []) (ha : AM X W (e :: es) ms) (hg : Gl X x := by rfl) (hdb : (x == ("__debug__" : Str)) = false := by decide) (he : starEach (e :: es) X.env = (false, eval e X.env) :: starEach es X.env := by rfl) (hpl : (backTo pos (starEach es X.env)).any (·.1) = false := by rfl)
    (hla : ∀ ρ l ρ', ms ρ = .ok l ρ' → l.length = ps.length) : EM X W (.Call (.Name x p) (e :: es) [] pos) (M.call f.nox ms) := fun G => pe_weak (pe_call F hr hg hm hk hb .nil pass0 (ha G) hdb he hpl) fun σ H Q ⟨F0, ρ, r, p⟩ =>
  ⟨F0, ρ, r, Post.bind p fun vs F1 H1 ρ1 as e l r1 q p1 => by
    rw [List.append_nil]
    have : spM X.K X.mg ps.length f.nox vs H1 Q (fun cls dd H => W cls dd σ H) := app_post r1 q (hla _ _ _ e) (fun _ _ _ z => z) p1
    obtain ⟨hl, F2, ins, r2, p2⟩ := this
    refine ⟨hl, F2, ins, r2, ?_⟩
    unfold Fn.nox at p2 ⊢
    cases ef : f ins with
    | ok s o => rw [ef] at p2; exact p2
    | exc c d o => rw [ef] at p2; exact p2.elim
    | bad => rw [ef] at p2; exact p2.elim⟩
/-- how many arguments there are -/
theorem nil_len : ∀ ρ l ρ', M.nil ρ = .ok l ρ' → l.length = 0 := fun ρ l ρ' h => by cases h; rfl
theorem cons_len {m : M Va} {ms : M (List Va)} {n : Nat} (h : ∀ ρ l ρ', ms ρ = .ok l ρ' → l.length = n) : ∀ ρ l ρ', M.cons m ms ρ = .ok l ρ' → l.length = n + 1 := fun ρ l ρ' e => by
  unfold M.cons M.bind at e
  cases e1 : m.fz ρ with
  | bad => rw [e1] at e; cases e
  | exc c d ρ => rw [e1] at e; cases e
  | ok a ρ1 =>
    rw [e1] at e
    simp only [R.bind, M.bind] at e
    cases e2 : ms ρ1 with
    | bad => rw [e2] at e; cases e
    | exc c d ρ => rw [e2] at e; cases e
    | ok l2 ρ2 =>
      rw [e2] at e
      injection e with e3 e4
      subst e3
      simp [h _ _ _ e2]
end
end Z
namespace Z
open PySem PySem.Spec L2
def wipeE (ρ : Ev) : List Nat → Ev
  | [] => ρ
  | v :: vs => (wipeE ρ vs).set v .no
/-- no exception within -/
def R.nb {α β : Type} (r : R α) (k : α → M β) : R β := match r with
  | .ok a ρ => k a ρ
  | _ => .bad
def M.lcGo (vs : List Nat) (τ : Tgt) (t : M Bool) (m : M Va) : List D → List D → M (List D)
  | [], acc => fun ρ => .ok acc ρ
  | d :: l, acc => fun ρ => match τ.f d ρ with
    | none => .bad
    | some ρ1 => (t ρ1).nb fun b ρ2 => if b then (m ρ2).nb fun a ρ3 => (M.shr a ρ3).nb fun y ρ4 => if acc.length < big then M.lcGo vs τ t m l (acc ++ [y]) (wipeE ρ4 vs) else .bad else M.lcGo vs τ t m l acc (wipeE ρ2 vs)
def M.lc (vs : List Nat) (τ : Tgt) (mi : M (List D)) (t : M Bool) (m : M Va) : M Va := mi.bind fun l ρ => (M.lcGo vs τ t m l [] (wipeE ρ vs)).bind fun acc ρ => .ok (.nw (.lst acc)) ρ
/-- within a comprehension the list that grows is not to be touched -/
def Gh.reb (G : Gh) (F H : Hp) (d : Addr) : Gh := ⟨F, H, G.σ, G.par, G.fresh, fun a => G.bar a ∨ a = d, G.lk⟩
section
variable {X : Cx} {W : WX} {K : Frag} {G : Gh} {F F' H H' : Hp} {σ σ' : St} {ρ ρ' : Ev} {En : Ends} {α β : Type} {pos : Pos} {d : Addr}
theorem Rep.reb (r : Rep K G F H ρ σ) (hd : H d ≠ none) (w : ∀ i, ¬ OwnAt ρ σ i d) : Rep K (G.reb F H d) F H ρ σ where
  gok := fun a h => ⟨(r.fresh h).1, fun z => z.elim (r.fresh h).2 fun z => hd (z ▸ h)⟩
  sub := r.sub
  len := r.len
  ok := fun i s ov e1 e2 => by
    have := r.ok i s ov e1 e2
    cases s with
    | no => trivial
    | sh p x => exact this
    | ow p l x =>
      obtain ⟨a, rfl, n, q, b0, b1, b2, b3, b4⟩ := this
      exact ⟨a, rfl, n, q, (fun z => z.elim b0 fun z => w i ⟨p, l, x, e1, z ▸ e2⟩), b1, b2, b3, b4⟩
  inj := r.inj
  go := Go.refl
  tab := r.tab
  ntb := r.ntb
theorem Rep.unreb (r : Rep K G F H ρ σ) (r' : Rep K (G.reb F H d) F' H' ρ' σ') : Rep K G F' H' ρ' σ' where
  gok := r.gok
  sub := r'.sub
  len := r'.len
  ok := fun i s ov e1 e2 => by
    have := r'.ok i s ov e1 e2
    cases s with
    | no => trivial
    | sh p x => exact this
    | ow p l x =>
      obtain ⟨a, rfl, n, q, b0, b1, b2, b3, b4⟩ := this
      exact ⟨a, rfl, n, q, (fun z => b0 (.inl z)), b1, b2, b3, b4⟩
  inj := r'.inj
  go := r.go.trans r'.go fun c o h1 h2 h3 => ⟨fun z => h3.1 (.inl z), h3.2⟩
  tab := r'.tab
  ntb := r'.ntb
theorem Rep.kept {o : HO} (r : Rep K G F H ρ σ) (e : H d = some o) (n : F d = none) (ht : isTT o = false) (r' : Rep K (G.reb F H d) F' H' ρ' σ') : H' d = some o ∧ F' d = none ∧ ∀ i, ¬ OwnAt ρ' σ' i d := by
  obtain ⟨h1, h2⟩ := r'.go.keep d o e n (fun z => z.1 (.inr rfl)) ht
  exact ⟨h1, h2, fun i w => (r'.ownAt w).2.2.1 (.inr rfl)⟩
theorem wipe_rep : ∀ (vs : List Nat), Rep K G F H ρ σ → Rep K G F H (wipeE ρ vs) (wipe σ vs)
  | [], r => r
  | v :: vs, r => (wipe_rep vs r).set trivial fun _ _ _ _ z => by cases z
theorem wipe_get (vs : List Nat) : ∀ (σ : St) (j : Nat), (wipe σ vs)[j]? = if j ∈ vs then σ[j]?.map (fun _ => none) else σ[j]? := by
  induction vs with
  | nil => intro σ j; simp [wipe]
  | cons v vs ih =>
    intro σ j
    unfold wipe
    by_cases h : v = j
    · subst h
      have hm : v ∈ v :: vs := List.mem_cons_self ..
      rw [List.getElem?_set, if_pos rfl, wipe_length, if_pos hm]
      split
      · rename_i z; rw [List.getElem?_eq_getElem z]; rfl
      · rename_i z; rw [List.getElem?_eq_none (Nat.le_of_not_lt z)]; rfl
    · rw [List.getElem?_set_ne h, ih]
      have : j ∈ v :: vs ↔ j ∈ vs := by simp [Ne.symm h]
      by_cases hj : j ∈ vs
      · rw [if_pos hj, if_pos (this.mpr hj)]
      · rw [if_neg hj, if_neg (fun z => hj (this.mp z))]
theorem agr_wipe {is vs : List Nat} (hs : ∀ i ∈ is, i ∈ vs) (a : Agr is (wipe σ vs) σ') : wipe σ' vs = wipe σ vs := by
  apply List.ext_getElem?
  intro j
  rw [wipe_get, wipe_get]
  by_cases hj : j ∈ vs
  · rw [if_pos hj, if_pos hj]
    have hl := a.1
    rw [wipe_length] at hl
    by_cases z : j < σ.length
    · rw [List.getElem?_eq_getElem z, List.getElem?_eq_getElem (by rw [hl]; exact z)]; rfl
    · rw [List.getElem?_eq_none (Nat.le_of_not_lt z), List.getElem?_eq_none (by rw [hl]; exact Nat.le_of_not_lt z)]
  · rw [if_neg hj, if_neg hj, a.2 j fun z => hj (hs j z), wipe_get, if_neg hj]
theorem wipeE_get (vs : List Nat) : ∀ (ρ : Ev) (j : Nat), (wipeE ρ vs)[j]? = if j ∈ vs then ρ[j]?.map (fun _ => .no) else ρ[j]? := by
  induction vs with
  | nil => intro ρ j; simp [wipeE]
  | cons v vs ih =>
    intro ρ j
    have hl : (wipeE ρ vs).length = ρ.length := by
      clear ih
      induction vs with
      | nil => rfl
      | cons x xs ih => unfold wipeE; rw [List.length_set]; exact ih
    unfold wipeE
    by_cases h : v = j
    · subst h
      have hm : v ∈ v :: vs := List.mem_cons_self ..
      rw [List.getElem?_set, if_pos rfl, hl, if_pos hm]
      split
      · rename_i z; rw [List.getElem?_eq_getElem z]; rfl
      · rename_i z; rw [List.getElem?_eq_none (Nat.le_of_not_lt z)]; rfl
    · rw [List.getElem?_set_ne h, ih]
      have : j ∈ v :: vs ↔ j ∈ vs := by simp [Ne.symm h]
      by_cases hj : j ∈ vs
      · rw [if_pos hj, if_pos (this.mpr hj)]
      · rw [if_neg hj, if_neg (fun z => hj (this.mp z))]
theorem wipeE_len (vs : List Nat) (ρ : Ev) : (wipeE ρ vs).length = ρ.length := by
  induction vs with
  | nil => rfl
  | cons x xs ih => unfold wipeE; rw [List.length_set]; exact ih
/-- the own names forgotten: any slots that agree elsewhere -/
theorem Rep.wiped {vs : List Nat} (r : Rep K G F H ρ σ') (h : ∀ j, j ∉ vs → σ'[j]? = σ[j]?) (hl : σ'.length = σ.length) : Rep K G F H (wipeE ρ vs) σ where
  gok := r.gok
  sub := r.sub
  len := by rw [wipeE_len, r.len, hl]
  ok := fun i s ov e1 e2 => by
    rw [wipeE_get] at e1
    by_cases hj : i ∈ vs
    · rw [if_pos hj] at e1
      cases e3 : ρ[i]? with
      | none => rw [e3] at e1; cases e1
      | some x => rw [e3] at e1; cases e1; trivial
    · rw [if_neg hj] at e1
      exact r.ok i s ov e1 (by rw [h i hj]; exact e2)
  inj := fun i j a w1 w2 => by
    have f : ∀ i, OwnAt (wipeE ρ vs) σ i a → OwnAt ρ σ' i a := fun i ⟨p, l, d, e1, e2⟩ => by
      rw [wipeE_get] at e1
      by_cases hj : i ∈ vs
      · rw [if_pos hj] at e1
        cases e3 : ρ[i]? with
        | none => rw [e3] at e1; cases e1
        | some x => rw [e3] at e1; cases e1
      · rw [if_neg hj] at e1
        exact ⟨p, l, d, e1, by rw [h i hj]; exact e2⟩
    exact r.inj i j a (f i w1) (f j w2)
  go := r.go
  tab := r.tab
  ntb := r.ntb
theorem own_wiped {vs : List Nat} {i : Nat} (h : ∀ j, j ∉ vs → σ'[j]? = σ[j]?) (w : OwnAt (wipeE ρ vs) σ i d) : OwnAt ρ σ' i d := by
  obtain ⟨p, l, x, e1, e2⟩ := w
  rw [wipeE_get] at e1
  by_cases hj : i ∈ vs
  · rw [if_pos hj] at e1
    cases e3 : ρ[i]? with
    | none => rw [e3] at e1; cases e1
    | some x => rw [e3] at e1; cases e1
  · rw [if_neg hj] at e1
    exact ⟨p, l, x, e1, by rw [h i hj]; exact e2⟩
/-- the list grows -/
theorem Rep.grow {o o' : HO} (r : Rep K G F H ρ σ) (e : H d = some o) (n : F d = none) (g : G.own d) (w : ∀ i, ¬ OwnAt ρ σ i d) (hc : isCo o = false := by rfl) : Rep K G F (upd H d o') ρ σ :=
  r.step (fun b u z => by
    have : b ≠ d := fun x => by subst x; rw [n] at z; cases z
    rw [upd_ne this]; exact r.sub b u z) (LeR.refl F) (fun j b x => by
    have : b ≠ d := fun z => w j (z ▸ x)
    exact ⟨upd_ne this, (r.ownAt x).1⟩) (r.go.trans (own1 := fun b => b = d) ⟨Le.refl F, fun b u h m z _ => ⟨by rw [upd_ne z]; exact h, m⟩, fun b h => by
      by_cases z : b = d
      · subst z; rw [upd_same]; simp
      · rw [upd_ne z]; exact h⟩ fun c u h m z => by subst z; exact g) (tabs_keep r.tab fun b u h k => by
    have : b ≠ d := fun z => by
      subst z
      rw [e] at h; cases h
      rw [k] at hc; cases hc
    rw [upd_ne this]; exact h) r.ntb
def TLM (X : Cx) (W : WX) (ifs : List Expr) (m : M Bool) : Prop := ∀ G, PTs X ifs (tG X W G rB m)
def M.yes : M Bool := fun ρ => .ok true ρ
theorem pts_weak {ifs : List Expr} {t t' : TT} (h : PTs X ifs t) (w : ∀ σ H Q, t' σ H Q → t σ H Q) : PTs X ifs t' := ⟨fun pins s σ H Q I q => h.run pins s σ H Q I (w σ H Q q)⟩
theorem tl_nil : TLM X W [] M.yes := fun G => pts_weak pts_nil fun σ H Q ⟨F, ρ, r, p⟩ => p true F H (Le.refl F) r rfl
abbrev W0 : WX := fun _ _ _ _ => False
/-- a step within: no exception -/
theorem nb_post {γ : Type} {r : R α} {k : α → M β} {Res : Hp → Hp → Ev → α → γ → Prop} {Q : γ → Hp → Prop} (nb : r.nb k ≠ .bad)
    (i : ∀ v F1 H1 ρ1 a, r = .ok a ρ1 → Le F F1 → Rep X.K G F1 H1 ρ1 σ → Res F1 H1 ρ1 a v → Q v H1) : Post X W0 G F σ Res r Q := by
  cases r with
  | ok a ρ' => exact fun v F' H' l r q => i v F' H' ρ' a rfl l r q
  | exc c d ρ' => exact absurd rfl nb
  | bad => exact absurd rfl nb
theorem Post.nb {γ : Type} {r : R α} {Res : Hp → Hp → Ev → α → γ → Prop} {Q : γ → Hp → Prop} (p : Post X W G F σ Res r Q) : r ≠ .bad := fun e => by rw [e] at p; exact p
theorem R.bind_nb {r : R α} {k : α → M β} (h : r.bind k ≠ .bad) : r ≠ .bad := fun e => by rw [e] at h; exact h rfl
def tLcM (X : Cx) (vs : List Nat) (τ : Tgt) (t : M Bool) (m : M Va) (wi : TI) : TE := tLc wi (τ.tg X.K) (fun σ H Q => ∃ G, tG X W0 G rB t σ H Q) (fun σ H Q => ∃ G, tG X W0 G (ResV X.K G) m σ H Q) vs
theorem lc_cont {vs : List Nat} {τ : Tgt} {t : M Bool} {m : M Va} (hv : ∀ i ∈ τ.is, i ∈ vs) {F1 H1 : Hp} {ρ1 : Ev} {σ : St} {l : List D} {J : It} {Q : VK} (r1 : Rep X.K G F1 H1 ρ1 σ) (wk : Wk X.K F1 l J) (p1 : Post X W G F1 σ (ResV X.K G σ) ((M.lcGo vs τ t m l [] (wipeE ρ1 vs)).bind fun acc ρ => .ok (.nw (.lst acc)) ρ) Q) : tLcM X vs τ t m (fun _ H R => R J H) σ H1 Q := by
  intro D0 hD
  -- the invariant
  let Inv : Nat → Nat → Hp → Prop := fun i n H => i ≤ l.length ∧ n = l.length - i ∧ ∃ F ρ acc vsa, Le F1 F ∧ Rep X.K G F H ρ σ ∧ ρ = wipeE ρ vs ∧ H D0 = some (.lst vsa) ∧ F D0 = none ∧ Rps X.K F acc vsa ∧ (∀ i, ¬ OwnAt ρ σ i D0) ∧
    Post X W G F σ (ResV X.K G σ) ((M.lcGo vs τ t m (l.drop i) acc ρ).bind fun acc ρ => .ok (.nw (.lst acc)) ρ) Q
  have hfr := r1.fresh hD
  have r1w : Rep X.K G F1 H1 (wipeE ρ1 vs) σ := r1.wiped (fun _ _ => rfl) rfl
  have ww : ∀ ρ : Ev, wipeE ρ vs = wipeE (wipeE ρ vs) vs := fun ρ => by
    apply List.ext_getElem?
    intro j
    rw [wipeE_get, wipeE_get, wipeE_get]
    by_cases hj : j ∈ vs
    · rw [if_pos hj, if_pos hj]; cases ρ[j]? <;> rfl
    · rw [if_neg hj, if_neg hj]
  refine ⟨Inv, ⟨l.length, Nat.zero_le _, rfl, F1, wipeE ρ1 vs, [], [], Le.refl F1, r1w.new hD, ww _, upd_same, r1.sub.none hD, Rps.nil, fun i w => ?_, p1⟩, ?_⟩
  · obtain ⟨p, l, x, e1, e2⟩ := w
    exact r1w.notOwn hD i ⟨p, l, x, e1, e2⟩
  rintro i n H2 ⟨hi, rfl, F2, ρ2, acc, vsa, l2, r2, hw, hH, hF, hR, hO, p2⟩
  cases e : l[i]? with
  | none =>
    have hl := List.getElem?_eq_none_iff.mp e
    rw [List.drop_eq_nil_of_le hl] at p2
    refine .inl ⟨(wk F2 H2 l2 r2.sub i).2 hl, p2 (.ref D0) F2 H2 (Le.refl F2) r2 ⟨D0, rfl, hF, ⟨vsa, hH, hR⟩, (fun ob u z => by rw [hH] at z; cases z), hfr, hO⟩⟩
  | some d =>
    have hl := (List.getElem?_eq_some_iff.mp e).1
    obtain ⟨go, yl⟩ := (wk F2 H2 l2 r2.sub i).1 d e
    rw [drop_cons e] at p2
    refine .inr ⟨go, fun H' => ∃ n', n' < l.length - i ∧ Inv (i + 1) n' H', fun H' h => h, fun x H' hy => ?_⟩
    unfold M.lcGo at p2
    cases e2 : τ.f d ρ2 with
    | none => rw [e2] at p2; exact p2.elim
    | some ρ3 =>
      rw [e2] at p2
      dsimp only at p2
      have key : ∀ F3 H3, Le F2 F3 → Rep X.K G F3 H3 ρ2 σ → Rp X.K F3 d x → H3 D0 = some (.lst vsa) → F3 D0 = none → τ.tg X.K x (wipe σ vs) H3 fun σ2 H2 => wipe σ2 vs = wipe σ vs ∧ ∃ G, tG X W0 G rB t σ2 H2 fun b H3 => if b = true then ∃ G, tG X W0 G (ResV X.K G) m σ2 H3 fun y H4 => ∃ acc, H4 D0 = some (.lst acc) ∧ acc.length < sizeLine ∧ ∃ n', n' < l.length - i ∧ Inv (i + 1) n' (upd H4 D0 (.lst (acc ++ [y]))) else ∃ n', n' < l.length - i ∧ Inv (i + 1) n' H3 := fun F3 H3 l3 r3 q3 h3 f3 => by
        have r3w : Rep X.K G F3 H3 ρ2 (wipe σ vs) := by
          have := wipe_rep vs r3
          rwa [← hw] at this
        have o3 : ∀ i, ¬ OwnAt ρ2 (wipe σ vs) i D0 := fun i w => by
          obtain ⟨p, l, z, e1, e2⟩ := w
          rw [wipe_get] at e2
          by_cases hj : i ∈ vs
          · rw [hw, wipeE_get, if_pos hj] at e1
            cases e4 : ρ2[i]? with
            | none => rw [e4] at e1; cases e1
            | some x => rw [e4] at e1; cases e1
          · rw [if_neg hj] at e2; exact hO i ⟨p, l, z, e1, e2⟩
        have hn3 : H3 D0 ≠ none := by rw [h3]; simp
        have rb := r3w.reb hn3 o3
        refine τ.read rb q3 e2 fun σ2 r4 ag => ⟨agr_wipe hv ag, G.reb F3 H3 D0, F3, ρ3, r4, ?_⟩
        have nb1 := R.bind_nb p2.nb
        refine nb_post nb1 fun b F4 H4 ρ4 b' e4 l4 r5 qb => ?_
        have qb : b' = b := qb
        subst qb
        rw [e4] at p2
        simp only [R.nb] at p2
        -- back to the outer ghost, the own names forgotten
        have agr : ∀ j, j ∉ vs → σ2[j]? = σ[j]? := fun j hj => by
          rw [ag.2 j (fun z => hj (hv j z)), wipe_get, if_neg hj]
        have agl : σ2.length = σ.length := by rw [ag.1, wipe_length]
        have back : ∀ {F5 H5 ρ5}, Rep X.K (G.reb F3 H3 D0) F5 H5 ρ5 σ2 → Rep X.K G F5 H5 (wipeE ρ5 vs) σ ∧ H5 D0 = some (.lst vsa) ∧ F5 D0 = none ∧ ∀ i, ¬ OwnAt (wipeE ρ5 vs) σ i D0 := fun {F5 H5 ρ5} r5 => by
          obtain ⟨k1, k2, k3⟩ := Rep.kept r3w h3 f3 rfl r5
          exact ⟨(Rep.unreb r3w r5).wiped agr agl, k1, k2, fun i w => k3 i (own_wiped agr w)⟩
        cases b' with
        | false =>
          rw [if_neg Bool.false_ne_true] at p2 ⊢
          obtain ⟨rr, k1, k2, k3⟩ := back r5
          exact ⟨l.length - (i + 1), by omega, by omega, rfl, F4, wipeE ρ4 vs, acc, vsa, l2.trans (l3.trans l4), rr, ww _, k1, k2, Rps.mono (l3.trans l4).r _ _ hR, k3, Post.le (l3.trans l4) p2⟩
        | true =>
          rw [if_pos rfl] at p2 ⊢
          refine ⟨G.reb F3 H3 D0, F4, ρ4, r5, ?_⟩
          have nb2 := R.bind_nb p2.nb
          refine nb_post nb2 fun y F5 H5 ρ5 a e5 l5 r6 qa => ?_
          rw [e5] at p2
          simp only [R.nb] at p2
          cases e6 : M.shr a ρ5 with
          | bad => rw [e6] at p2; exact p2.elim
          | exc c d ρ' => exact absurd e6 shr_noexc
          | ok yd ρ6 =>
            rw [e6] at p2
            obtain ⟨F6, l6, r7, q7⟩ := shr_step r6 qa e6
            simp only [R.nb] at p2
            split at p2
            · rename_i hz
              obtain ⟨rr, k1, k2, k3⟩ := back r7
              have le := l3.trans (l4.trans (l5.trans l6))
              have hR' := Rps.mono le.r _ _ hR
              refine ⟨vsa, k1, by rw [← hR.length]; exact Nat.lt_of_lt_of_le hz (big_le (Nat.le_refl _)), l.length - (i + 1), by omega, by omega, rfl, F6, wipeE ρ6 vs, acc ++ [yd], vsa ++ [y], l2.trans le, rr.grow k1 k2 ⟨hfr.2, .inr hfr.1⟩ k3, ww _, upd_same, k2, hR'.append (Rps.cons q7 Rps.nil), k3, Post.le le p2⟩
            · exact p2.elim
      rcases yl x H' hy with ⟨rfl, q⟩ | ⟨T, ts, nT, rfl, q⟩ | ⟨T, ts, nT, rfl, q⟩
      · exact key F2 _ (Le.refl F2) r2 q hH hF
      · obtain ⟨l3, r3⟩ := new_item (vs := ts) r2 nT
        have hne : D0 ≠ T := ne_of_none hH nT
        exact key _ _ l3 r3 q (by rw [upd_ne hne]; exact hH) (by rw [upd_ne hne]; exact hF)
      · obtain ⟨F3, l3, r3, f3, f4⟩ := r2.addT nT
        have hne : D0 ≠ T := fun z => by subst z; rw [hH] at nT; cases nT
        exact key F3 _ l3 r3 (q F3 l3 f3) hH (by rw [f4 _ hne]; exact hF)
theorem lc_read {vs : List Nat} {τ : Tgt} {mi : M (List D)} {t : M Bool} {m : M Va} (hv : ∀ i ∈ τ.is, i ∈ vs) : ∀ σ H Q, tG X W G (ResV X.K G) (M.lc vs τ mi t m) σ H Q → tLcM X vs τ t m (tG X W G (fun _ F _ _ l J => Wk X.K F l J) mi) σ H Q := fun σ H Q ⟨F, ρ, r, p⟩ =>
  ⟨F, ρ, r, Post.bind p fun J F1 H1 ρ1 l e l1 r1 wk p1 => lc_cont hv r1 wk p1⟩
theorem em_lc {elt tg iter : Expr} {ifs : List Expr} {scope : Scope} {mi : M (List D)} {t : M Bool} {m : M Va} (own : List (Str × Nat)) (τ : Tgt) (nd : X.N.Nodup) (hi : IM X W tg iter mi) (ok : blkC X.N X.env.scope scope own = true)
    (hg : ∀ (s : Shared) (H : Hp) (C : Addr) (cl : List (Str × Addr)) (fp : List Addr), TGM (X.blk s H scope (compEnvC scope cl C X.env) fp) tg τ) (ht : ∀ (s : Shared) (H : Hp) (C : Addr) (cl : List (Str × Addr)) (fp : List Addr), TLM (X.blk s H scope (compEnvC scope cl C X.env) fp) W0 ifs t)
    (he : ∀ (s : Shared) (H : Hp) (C : Addr) (cl : List (Str × Addr)) (fp : List Addr), EM (X.blk s H scope (compEnvC scope cl C X.env) fp) W0 elt m) (hc : X.calm = true := by rfl) (hs : ∀ x, foldedSetIterable iter X.env x = pure x := by intro _; rfl) (hv : ∀ i ∈ τ.is, i ∈ own.map (·.2) := by decide) :
    EM X W (.ListComp elt [⟨tg, iter, ifs, 0⟩] scope pos) (M.lc (own.map (·.2)) τ mi t m) := fun G => pe_weak (pe_lc (g := τ.tg X.K) (tt := fun σ H Q => ∃ G, tG X W0 G rB t σ H Q) (te := fun σ H Q => ∃ G, tG X W0 G (ResV X.K G) m σ H Q) hc nd (hi G) (blkOk_by ok)
      (fun s H C cl fp => hg s H C cl fp) (fun s H C cl fp => ⟨fun pins s' σ' H' Q' I ⟨G', q⟩ => (ht s H C cl fp G').run pins s' σ' H' Q' I q⟩) (fun s H C cl fp => ⟨fun pins s' σ' H' Q' I ⟨G', q⟩ => (he s H C cl fp G').run pins s' σ' H' Q' I q⟩) hs) (lc_read hv)
/-- name = [..] on one line -/
theorem sm_setLc {i : Nat} {y : Str} {py spos : Pos} {elt tg iter : Expr} {ifs : List Expr} {scope : Scope} {mi : M (List D)} {t : M Bool} {m : M Va} (own : List (Str × Nat)) (τ : Tgt) (nd : X.N.Nodup) (hi : IM X W tg iter mi) (ok : blkC X.N X.env.scope scope own = true)
    (hg : ∀ (s : Shared) (H : Hp) (C : Addr) (cl : List (Str × Addr)) (fp : List Addr), TGM (X.blk s H scope (compEnvC scope cl C X.env) fp) tg τ) (ht : ∀ (s : Shared) (H : Hp) (C : Addr) (cl : List (Str × Addr)) (fp : List Addr), TLM (X.blk s H scope (compEnvC scope cl C X.env) fp) W0 ifs t)
    (he : ∀ (s : Shared) (H : Hp) (C : Addr) (cl : List (Str × Addr)) (fp : List Addr), EM (X.blk s H scope (compEnvC scope cl C X.env) fp) W0 elt m) (hsw : swapsWith (.ListComp elt [⟨tg, iter, ifs, 0⟩] scope pos) (some (.Name y py)) spos.line X.env = pure true)
    (hy : X.N[i]? = some y := by rfl) (hyl : X.env.scope.names.lookup y = some .local := by rfl) (hc : X.calm = true := by rfl) (hs : ∀ x, foldedSetIterable iter X.env x = pure x := by intro _; rfl) (hv : ∀ i ∈ τ.is, i ∈ own.map (·.2) := by decide) :
    SM X W (.Assign [.Name y py] (.ListComp elt [⟨tg, iter, ifs, 0⟩] scope pos) spos) (MS.asg i (M.lc (own.map (·.2)) τ mi t m)) := fun G => ps_weak (ps_setLc (g := τ.tg X.K) (tt := fun σ H Q => ∃ G, tG X W0 G rB t σ H Q) (te := fun σ H Q => ∃ G, tG X W0 G (ResV X.K G) m σ H Q) hc nd hy hyl hsw (hi G) (blkOk_by ok)
      (fun s H C cl fp => hg s H C cl fp) (fun s H C cl fp => ⟨fun pins s' σ' H' Q' I ⟨G', q⟩ => (ht s H C cl fp G').run pins s' σ' H' Q' I q⟩) (fun s H C cl fp => ⟨fun pins s' σ' H' Q' I ⟨G', q⟩ => (he s H C cl fp G').run pins s' σ' H' Q' I q⟩) hs) fun En σ H ⟨F, ρ, r, p⟩ =>
  lc_read hv σ H _ ⟨F, ρ, r, PostS.thn p fun v F1 H1 ρ1 a e l r1 q p1 => sto_step r1 q p1⟩
end
end Z
namespace Z
open PySem PySem.Spec L2
section
variable {X : Cx} {W : WX} {K : Frag} {G : Gh} {F F' H H' : Hp} {σ σ' : St} {ρ ρ' : Ev} {En : Ends} {α β : Type} {pos : Pos} {v x y : V}
theorem atI_rps {l : List D} {vs : List V} {i : Int} {d : D} (q : Rps K F l vs) (h : atI l i = some d) : ∃ v, atI vs i = some v ∧ Rp K F d v := by
  unfold atI at h ⊢
  obtain ⟨j, e1, e2⟩ := bind_some h
  obtain ⟨v, e3, r⟩ := Rps.get q e2
  exact ⟨v, by rw [← q.length, e1]; exact e3, r⟩
def dget (l : List (D × D)) (y : D) : Option D := match key1 y with
  | some k => (l.find? fun e => decide (key1 e.1 = some k)).map (·.2)
  | none => match keyT y with
    | some k => (l.find? fun e => decide (keyT e.1 = some k)).map (·.2)
    | none => none
/-- a key that a dict may hold -/
def okK (y : D) : Bool := (key1 y).isSome || (keyT y).isSome
def sameK (y z : D) : Bool := match key1 y with
  | some k => decide (key1 z = some k)
  | none => match keyT y with
    | some k => decide (keyT z = some k)
    | none => false
def dput (l : List (D × D)) (y v : D) : List (D × D) := if (l.any fun e => sameK y e.1) = true then l.map (fun e => if sameK y e.1 = true then (e.1, v) else e) else l ++ [(y, v)]
theorem rv_key {k : Key} {y : D} (e : key1 y = some k) (q : Rp K F y x) : x = kV k := by
  cases y <;> simp only [key1] at e <;> cases e <;> simpa only [Rp, kV] using q
theorem rv_keys : ∀ {l : List D} {ks : List Key} {vs : List V}, l.mapM key1 = some ks → Rps K F l vs → vs = ks.map kV
  | [], ks, vs, e, q => by simp at e; subst e; simp only [Rps] at q; exact q
  | d :: l, ks, vs, e, q => by
    obtain ⟨v, r, rfl, h1, h2⟩ := q.cases1
    rw [List.mapM_cons] at e
    cases e1 : key1 d with
    | none => rw [e1] at e; cases e
    | some k =>
      rw [e1] at e
      cases e2 : l.mapM key1 with
      | none => rw [e2] at e; cases e
      | some ks' =>
        rw [e2] at e; cases e
        rw [rv_key e1 h1, rv_keys e2 h2]; rfl
theorem rpk_get {k : Key} : ∀ {l : List (D × D)} {kvs : List (Key × V)}, RpK K F l kvs → (∀ d, (l.find? fun e => decide (key1 e.1 = some k)).map (·.2) = some d → ∃ v, valV kvs k = some v ∧ Rp K F d v) ∧ ((l.find? fun e => decide (key1 e.1 = some k)).map (·.2) = none → valV kvs k = none)
  | [], kvs, h => by
    simp only [RpK] at h; subst h
    exact ⟨fun d e => by simp at e, fun _ => rfl⟩
  | (a, b) :: l, kvs, h => by
    simp only [RpK] at h
    obtain ⟨q, v, r, rfl, h1, h2, h3⟩ := h
    have ih := rpk_get (k := k) h3
    by_cases z : q = k
    · subst z
      have e1 : List.find? (fun e => decide (key1 e.1 = some q)) ((a, b) :: l) = some (a, b) := List.find?_cons_of_pos (by simpa using h1)
      rw [e1, valV_pos (p := (q, v)) rfl]
      exact ⟨fun d e => by cases e; exact ⟨v, rfl, h2⟩, fun e => by cases e⟩
    · have e1 : List.find? (fun e => decide (key1 e.1 = some k)) ((a, b) :: l) = List.find? (fun e => decide (key1 e.1 = some k)) l := List.find?_cons_of_neg (by
        intro z2; have z2 := of_decide_eq_true z2
        rw [h1] at z2; exact z (Option.some.inj z2))
      rw [e1, valV_neg (p := (q, v)) z]
      exact ih
theorem rpt_get {k : List Key} : ∀ {l : List (D × D)} {kvs : List (List Key × V)}, RpT K F l kvs → (∀ d, (l.find? fun e => decide (keyT e.1 = some k)).map (·.2) = some d → ∃ v, valV kvs k = some v ∧ Rp K F d v) ∧ ((l.find? fun e => decide (keyT e.1 = some k)).map (·.2) = none → valV kvs k = none)
  | [], kvs, h => by
    simp only [RpT] at h; subst h
    exact ⟨fun d e => by simp at e, fun _ => rfl⟩
  | (a, b) :: l, kvs, h => by
    simp only [RpT] at h
    obtain ⟨q, v, r, rfl, h1, h2, h3⟩ := h
    have ih := rpt_get (k := k) h3
    by_cases z : q = k
    · subst z
      have e1 : List.find? (fun e => decide (keyT e.1 = some q)) ((a, b) :: l) = some (a, b) := List.find?_cons_of_pos (by simpa using h1)
      rw [e1, valV_pos (p := (q, v)) rfl]
      exact ⟨fun d e => by cases e; exact ⟨v, rfl, h2⟩, fun e => by cases e⟩
    · have e1 : List.find? (fun e => decide (keyT e.1 = some k)) ((a, b) :: l) = List.find? (fun e => decide (keyT e.1 = some k)) l := List.find?_cons_of_neg (by
        intro z2; have z2 := of_decide_eq_true z2
        rw [h1] at z2; exact z (Option.some.inj z2))
      rw [e1, valV_neg (p := (q, v)) z]
      exact ih
theorem rpk_map {k : Key} {y d : D} {w : V} (ey : key1 y = some k) (q2 : Rp K F d w) : ∀ {l : List (D × D)} {kvs : List (Key × V)}, RpK K F l kvs → RpK K F (l.map fun e => if sameK y e.1 = true then (e.1, d) else e) (kvs.map fun e => if e.1 = k then (e.1, w) else e) ∧ (l.any fun e => sameK y e.1) = (kvs.any fun e => decide (e.1 = k))
  | [], kvs, h => by simp only [RpK] at h; subst h; exact ⟨by simp only [List.map_nil, RpK], rfl⟩
  | (a, b) :: l, kvs, h => by
    simp only [RpK] at h
    obtain ⟨q, v, r, rfl, h1, h2, h3⟩ := h
    obtain ⟨i1, i2⟩ := rpk_map ey q2 h3
    have es : sameK y a = decide (q = k) := by
      unfold sameK; rw [ey]; simp only [h1]
      by_cases z : q = k
      · rw [decide_eq_true z, z]; exact decide_eq_true rfl
      · rw [decide_eq_false z]; exact decide_eq_false fun e => z (Option.some.inj e)
    refine ⟨?_, by rw [List.any_cons, List.any_cons, i2, es]⟩
    rw [List.map_cons, List.map_cons]
    simp only [es]
    by_cases z : q = k
    · simp only [decide_eq_true z, if_pos z, if_true, RpK]
      exact ⟨q, w, _, rfl, h1, q2, i1⟩
    · simp only [decide_eq_false z, if_neg z, Bool.false_eq_true, if_false, RpK]
      exact ⟨q, v, _, rfl, h1, h2, i1⟩
theorem rpt_map {k : List Key} {y d : D} {w : V} (e1 : key1 y = none) (ey : keyT y = some k) (q2 : Rp K F d w) : ∀ {l : List (D × D)} {kvs : List (List Key × V)}, RpT K F l kvs → RpT K F (l.map fun e => if sameK y e.1 = true then (e.1, d) else e) (kvs.map fun e => if e.1 = k then (e.1, w) else e) ∧ (l.any fun e => sameK y e.1) = (kvs.any fun e => decide (e.1 = k))
  | [], kvs, h => by simp only [RpT] at h; subst h; exact ⟨by simp only [List.map_nil, RpT], rfl⟩
  | (a, b) :: l, kvs, h => by
    simp only [RpT] at h
    obtain ⟨q, v, r, rfl, h1, h2, h3⟩ := h
    obtain ⟨i1, i2⟩ := rpt_map e1 ey q2 h3
    have es : sameK y a = decide (q = k) := by
      unfold sameK; rw [e1, ey]; simp only [h1]
      by_cases z : q = k
      · rw [decide_eq_true z, z]; exact decide_eq_true rfl
      · rw [decide_eq_false z]; exact decide_eq_false fun e => z (Option.some.inj e)
    refine ⟨?_, by rw [List.any_cons, List.any_cons, i2, es]⟩
    rw [List.map_cons, List.map_cons]
    simp only [es]
    by_cases z : q = k
    · simp only [decide_eq_true z, if_pos z, if_true, RpT]
      exact ⟨q, w, _, rfl, h1, q2, i1⟩
    · simp only [decide_eq_false z, if_neg z, Bool.false_eq_true, if_false, RpT]
      exact ⟨q, v, _, rfl, h1, h2, i1⟩
theorem rpk_app {k : Key} {y d : D} {w : V} (ey : key1 y = some k) (q2 : Rp K F d w) : ∀ {l : List (D × D)} {kvs : List (Key × V)}, RpK K F l kvs → RpK K F (l ++ [(y, d)]) (kvs ++ [(k, w)])
  | [], kvs, h => by simp only [RpK] at h; subst h; simp only [List.nil_append, RpK]; exact ⟨k, w, [], rfl, ey, q2, rfl⟩
  | (a, b) :: l, kvs, h => by
    simp only [RpK] at h
    obtain ⟨q, v, r, rfl, h1, h2, h3⟩ := h
    simp only [List.cons_append, RpK]
    exact ⟨q, v, _, rfl, h1, h2, rpk_app ey q2 h3⟩
theorem rpt_app {k : List Key} {y d : D} {w : V} (ey : keyT y = some k) (q2 : Rp K F d w) : ∀ {l : List (D × D)} {kvs : List (List Key × V)}, RpT K F l kvs → RpT K F (l ++ [(y, d)]) (kvs ++ [(k, w)])
  | [], kvs, h => by simp only [RpT] at h; subst h; simp only [List.nil_append, RpT]; exact ⟨k, w, [], rfl, ey, q2, rfl⟩
  | (a, b) :: l, kvs, h => by
    simp only [RpT] at h
    obtain ⟨q, v, r, rfl, h1, h2, h3⟩ := h
    simp only [List.cons_append, RpT]
    exact ⟨q, v, _, rfl, h1, h2, rpt_app ey q2 h3⟩
theorem rpk_put {k : Key} {y d : D} {w : V} {l : List (D × D)} {kvs : List (Key × V)} (ey : key1 y = some k) (q2 : Rp K F d w) (h : RpK K F l kvs) : RpK K F (dput l y d) (putK kvs k w) := by
  obtain ⟨i1, i2⟩ := rpk_map ey q2 h
  unfold dput putK
  rw [i2]
  split
  · exact i1
  · exact rpk_app ey q2 h
theorem rpm_of {l : List (D × D)} {kvs : List (List Key × V)} (h : RpM K F l kvs) : ∃ r, l = (.non, .non) :: r ∧ RpT K F r kvs := by
  match l, h with
  | [], h => simp only [RpM] at h
  | (k, d) :: r, h =>
    simp only [RpM] at h
    obtain ⟨rfl, rfl, h⟩ := h
    exact ⟨r, rfl, h⟩
theorem rpm_put {k : List Key} {y d : D} {w : V} {l : List (D × D)} {kvs : List (List Key × V)} (e1 : key1 y = none) (ey : keyT y = some k) (q2 : Rp K F d w) (h : RpM K F l kvs) : RpM K F (dput l y d) (putK kvs k w) := by
  obtain ⟨r, rfl, h3⟩ := rpm_of h
  obtain ⟨i1, i2⟩ := rpt_map e1 ey q2 h3
  have es : sameK y .non = false := by unfold sameK; rw [e1, ey]; exact decide_eq_false (by simp [keyT])
  unfold dput putK
  rw [List.any_cons, es, Bool.false_or, i2]
  split
  · rw [List.map_cons]; simp only [es, Bool.false_eq_true, if_false, RpM]; exact ⟨trivial, trivial, i1⟩
  · simp only [List.cons_append, RpM]; exact ⟨trivial, trivial, rpt_app ey q2 h3⟩
theorem rpk_len : ∀ {l : List (D × D)} {kvs : List (Key × V)}, RpK K F l kvs → l.length = kvs.length
  | [], kvs, h => by simp only [RpK] at h; subst h; rfl
  | (a, b) :: l, kvs, h => by
    simp only [RpK] at h
    obtain ⟨q, v, r, rfl, h1, h2, h3⟩ := h
    rw [List.length_cons, List.length_cons, rpk_len h3]
theorem rpt_len : ∀ {l : List (D × D)} {kvs : List (List Key × V)}, RpT K F l kvs → l.length = kvs.length
  | [], kvs, h => by simp only [RpT] at h; subst h; rfl
  | (a, b) :: l, kvs, h => by
    simp only [RpT] at h
    obtain ⟨q, v, r, rfl, h1, h2, h3⟩ := h
    rw [List.length_cons, List.length_cons, rpt_len h3]
/-- which of the two kinds of dict -/
theorem dic_get {a : Addr} {l : List (D × D)} {y : D} {x : V} (s : Sub F H) (o : (∃ kvs, rd H a = some (.dK kvs) ∧ RpK K F l kvs) ∨ (∃ kvs, rd H a = some (.dT kvs) ∧ RpM K F l kvs)) (vy : Vw K F H y x) :
    (∀ d, dget l y = some d → ∃ v, DGet H a x (some v) ∧ Rp K F d v) ∧ (dget l y = none → okK y = true → DGet H a x none ∨ ((key1 y).isSome = true ∧ ∃ kvs, rd H a = some (.dT kvs)) ∨ ((key1 y) = none ∧ ∃ kvs, rd H a = some (.dK kvs))) := by
  have ky : ∀ k, key1 y = some k → x = kV k := fun k e => by
    cases y <;> simp only [key1] at e <;> cases e <;> simpa only [Vw, Rp, kV] using vy
  have kt : ∀ k, key1 y = none → keyT y = some k → ∃ b, x = .ref b ∧ H b = some (.tup (k.map kV)) := fun k e1 e => by
    cases y <;> simp only [keyT] at e <;> try cases e
    rename_i l0
    obtain ⟨b, vs, rfl, h1, _, q⟩ := vy
    rw [rv_keys e q] at h1
    exact ⟨b, rfl, h1⟩
  have nk : ∀ (l : List (D × D)) (kvs : List (Key × V)) (k : List Key), RpK K F l kvs → (l.find? fun e => decide (keyT e.1 = some k)) = none := fun l => by
    induction l with
    | nil => intro _ _ _; rfl
    | cons e l ih =>
      intro kvs k h
      obtain ⟨a, b⟩ := e
      simp only [RpK] at h
      obtain ⟨q, v, r, rfl, h1, h2, h3⟩ := h
      have e1 : keyT a = none := by cases a <;> first | rfl | (simp only [key1] at h1; cases h1)
      rw [List.find?_cons_of_neg (by simp only [e1]; intro z; have := of_decide_eq_true z; cases this)]
      exact ih r k h3
  have nt : ∀ (l : List (D × D)) (kvs : List (List Key × V)) (k : Key), RpT K F l kvs → (l.find? fun e => decide (key1 e.1 = some k)) = none := fun l => by
    induction l with
    | nil => intro _ _ _; rfl
    | cons e l ih =>
      intro kvs k h
      obtain ⟨a, b⟩ := e
      simp only [RpT] at h
      obtain ⟨q, v, r, rfl, h1, h2, h3⟩ := h
      have e1 : key1 a = none := by cases a <;> first | rfl | (simp only [keyT] at h1; cases h1)
      rw [List.find?_cons_of_neg (by simp only [e1]; intro z; have := of_decide_eq_true z; cases this)]
      exact ih r k h3
  unfold dget
  rcases o with ⟨kvs, h1, h2⟩ | ⟨kvs, h1, h2⟩
  rotate_left
  obtain ⟨l, rfl, h3⟩ := rpm_of h2
  have h2 := h3
  rotate_left
  · cases e1 : key1 y with
    | some k =>
      have g := rpk_get (k := k) h2
      refine ⟨fun d e => ?_, fun e _ => .inl ?_⟩
      · obtain ⟨v, e2, q⟩ := g.1 d e
        exact ⟨v, .inl ⟨kvs, k, rd_Rd h1, ky k e1, e2.symm⟩, q⟩
      · exact .inl ⟨kvs, k, rd_Rd h1, ky k e1, (g.2 e).symm⟩
    | none =>
      cases e2 : keyT y with
      | none => exact ⟨fun d e => (nomatch e), fun _ z => by simp [okK, e1, e2] at z⟩
      | some k =>
        refine ⟨fun d e => ?_, fun _ _ => .inr (.inr ⟨rfl, kvs, h1⟩)⟩
        simp only [nk l kvs k h2] at e; cases e
  · cases e1 : key1 y with
    | some k =>
      refine ⟨fun d e => ?_, fun _ _ => .inr (.inl ⟨rfl, kvs, h1⟩)⟩
      have e9 : List.find? (fun e => decide (key1 e.1 = some k)) ((D.non, D.non) :: l) = none := (List.find?_cons_of_neg (by simp [key1])).trans (nt l kvs k h2)
      simp only [e9] at e; cases e
    | none =>
      cases e2 : keyT y with
      | none => exact ⟨fun d e => (nomatch e), fun _ z => by simp [okK, e1, e2] at z⟩
      | some k =>
        obtain ⟨b, rfl, hb⟩ := kt k e1 e2
        have g := rpt_get (k := k) h2
        have e9 : List.find? (fun e => decide (keyT e.1 = some k)) ((D.non, D.non) :: l) = List.find? (fun e => decide (keyT e.1 = some k)) l := List.find?_cons_of_neg (by simp [keyT])
        simp only [e9]
        refine ⟨fun d e => ?_, fun e _ => .inl ?_⟩
        · obtain ⟨v, e3, q⟩ := g.1 d e
          exact ⟨v, .inr ⟨kvs, k, b, rd_Rd h1, rfl, hb, e3.symm⟩, q⟩
        · exact .inr ⟨kvs, k, b, rd_Rd h1, rfl, hb, (g.2 e).symm⟩
def rIxD : R2 := fun x y H Q => ∃ a v, x = .ref a ∧ DGet H a y (some v) ∧ Q v H
theorem ix_dict (hu : X.A.units + 64 < cLine) : IxR X rIxD := by
  intro value slice pins s σ H x y v u Q I rx ry h hs
  obtain ⟨a, w, rfl, g, q⟩ := h
  cases rx
  exact PyProof.Rows.tail_any (dict_typeIs I g) PySem.F.slot_dict_getitem.lookup (d_getItem (by omega) I g ry fun w' s3 I3 rw' => ⟨w, H, I3, rw', q⟩) hs
def opIx : D → D → Option Va
  | .lst l, .int i => (atI l i).map .sh
  | .tup l, .int i => (atI l i).map .sh
  | .scr l, .int i => (atI l i).map .sh
  | .str s, .int i => if s.length ≤ big then (atI s i).map fun c => .sh (.str [c]) else none
  | .dic l, y => (dget l y).map .sh
  | _, _ => none
theorem map_some' {α β : Type} {o : Option α} {f : α → β} {b : β} (h : o.map f = some b) : ∃ a, o = some a ∧ f a = b := by
  cases o with
  | none => cases h
  | some a => exact ⟨a, rfl, Option.some.inj h⟩
def BI (X : Cx) (o : D → D → Option Va) : Prop := ∃ r, IxR X r ∧ OpS X r o
theorem bi_ix (hu : X.A.units + 64 < cLine) : BI X opIx := ⟨_, IxR.or ix_seq (ix_dict hu), fun G F H ρ σ x y dx dy s Q r vx vy e k => by
  unfold opIx at e
  split at e
  · obtain ⟨d, e1, rfl⟩ := map_some' e
    obtain ⟨a, vs, rfl, h1, q⟩ := vw_lst vx
    obtain ⟨w, e2, q2⟩ := atI_rps q e1
    exact .inl <| .inl ⟨a, vs, _, w, rfl, vw_int vy, SqL.of h1, e2, k w F H (Le.refl F) r q2⟩
  · obtain ⟨d, e1, rfl⟩ := map_some' e
    obtain ⟨a, vs, rfl, h1, f1, q⟩ := vw_tup vx
    obtain ⟨w, e2, q2⟩ := atI_rps q e1
    exact .inl <| .inr (.inl ⟨a, vs, _, w, rfl, vw_int vy, SqT.of h1, e2, k w F H (Le.refl F) r q2⟩)
  · obtain ⟨d, e1, rfl⟩ := map_some' e
    obtain ⟨a, vs, rfl, h1, q⟩ := vw_scr r.sub vx
    obtain ⟨w, e2, q2⟩ := atI_rps q e1
    exact .inl <| .inl ⟨a, vs, _, w, rfl, vw_int vy, h1, e2, k w F H (Le.refl F) r q2⟩
  · split at e
    · rename_i z
      obtain ⟨c, e1, rfl⟩ := map_some' e
      exact .inl <| .inr (.inr ⟨_, _, c, vw_str vx, vw_int vy, by rw [S_len]; exact big_le z, by rw [S_toList]; exact e1, k _ F H (Le.refl F) r rv_str⟩)
    · cases e
  · obtain ⟨d, e1, rfl⟩ := map_some' e
    obtain ⟨a, rfl, o⟩ := vx
    obtain ⟨v, g, q⟩ := (dic_get r.sub o vy).1 d e1
    exact .inr ⟨a, v, rfl, g, k v F H (Le.refl F) r q⟩
  · cases e⟩
theorem em_bi {a b : Expr} {ma mb : M Va} {o : D → D → Option Va} (h : BI X o) (ha : EM X W a ma) (hb : EM X W b mb) (hp : PlainIx b := by exact fun _ _ => rfl) : EM X W (.Subscript a b pos) (M.bin o ma mb) := by
  obtain ⟨r, ho, hs⟩ := h
  exact em_ix ho hs ha hb hp
def cutD {α : Type} (xs : List α) (lo hi : Option Int) : List α := (xs.drop (HT.sIx xs.length 0 lo)).take (HT.sIx xs.length xs.length hi - HT.sIx xs.length 0 lo)
theorem cut_rps {l : List D} {vs : List V} (q : Rps K F l vs) (lo hi : Option Int) : Rps K F (cutD l lo hi) (cutV vs lo hi) := by
  unfold cutD cutV
  rw [q.length]
  exact (q.drop _).take _
theorem cut_S (s : List Nat) (lo hi : Option Int) : cutS (S s) lo hi = S (cutD s lo hi) := by
  unfold cutS cutD
  rw [S_len, S_toList]
  rfl
def opSl : D → Option Int → Option Int → Option Va
  | .lst l, lo, hi => some (.nw (.lst (cutD l lo hi)))
  | .scr l, lo, hi => some (.nw (.lst (cutD l lo hi)))
  | .tup l, lo, hi => some (.sh (.tup (cutD l lo hi)))
  | .str s, lo, hi => if s.length ≤ big then some (.sh (.str (cutD s lo hi))) else none
  | _, _, _ => none
/-- an optional part of a slice -/
def OMt (X : Cx) (W : WX) (o : Option Expr) (m : M (Option Int)) : Prop := ∀ G, PO X o (tG X W G (fun _ _ _ _ (a b : Option Int) => a = b) m)
def M.toI (m : M Va) : M (Option Int) := m.bind fun a => M.ofO fun ρ => (a.get ρ).bind fun d => match d with
  | .int i => some (some i)
  | _ => none
def M.no : M (Option Int) := fun ρ => .ok none ρ
theorem po_weak {e : Option Expr} {t t' : TO} (h : PO X e t) (w : ∀ σ H Q, t' σ H Q → t σ H Q) : PO X e t' := ⟨fun pins s σ H Q I q => h.run pins s σ H Q I (w σ H Q q)⟩
theorem om_none : OMt X W none M.no := fun G => po_weak po_none fun σ H Q ⟨F, ρ, r, p⟩ => p none F H (Le.refl F) r rfl
theorem om_some {e : Expr} {m : M Va} (h : EM X W e m) : OMt X W (some e) (M.toI m) := fun G => po_weak (po_some (h G)) fun σ H Q ⟨F, ρ, r, p⟩ => ⟨F, ρ, r, Post.bind p fun v F1 H1 ρ1 a e l r1 q p1 => by
  obtain ⟨s, e1, k⟩ := ofO_post p1
  obtain ⟨d, g, e2⟩ := bind_some e1
  cases d with
  | int i => cases e2; exact ⟨i, vw_int (r1.view q g), k _ F1 H1 (Le.refl F1) r1 rfl⟩
  | _ => cases e2⟩
def M.slice (m : M Va) (ml mh : M (Option Int)) : M Va := m.fz.bind fun a => ml.bind fun lo => mh.bind fun hi => M.ofO fun ρ => (a.get ρ).bind fun d => opSl d lo hi
theorem em_slice {e : Expr} {lo hi : Option Expr} {m : M Va} {ml mh : M (Option Int)} {p2 : Pos} (he : EM X W e m) (hl : OMt X W lo ml) (hh : OMt X W hi mh) : EM X W (.Subscript e (.Slice lo hi none p2) pos) (M.slice m ml mh) :=
  fun G => pe_weak (pe_slice (SlR.or sl_list (SlR.or sl_tupA sl_str)) (he.fz G) (hl G) (hh G)) fun σ H Q ⟨F, ρ, r, p⟩ => ⟨F, ρ, r, Post.bind p fun x F1 H1 ρ1 a e1 l1 r1 q1 p1 => ⟨F1, ρ1, r1, Post.bind p1 fun vl F2 H2 ρ2 lo' e2 l2 r2 q2 p2 => ⟨F2, ρ2, r2, Post.bind p2 fun vh F3 H3 ρ3 hi' e3 l3 r3 q3 p3 => by
    have q2 : lo' = vl := q2
    have q3 : hi' = vh := q3
    subst q2; subst q3
    obtain ⟨s, e4, k⟩ := ofO_post p3
    obtain ⟨d, g, e5⟩ := bind_some e4
    have w := r3.view (q1.mono (l2.trans l3).r (fz_inv e1)) g
    unfold opSl at e5
    split at e5
    · cases e5
      obtain ⟨p, vs, rfl, h1, q⟩ := vw_lst w
      refine .inl ⟨p, vs, rfl, SqL.of h1, fun t n => ?_⟩
      obtain ⟨r', q'⟩ := new_lst r3 (cut_rps q lo' hi') n
      exact k _ F3 _ (Le.refl F3) r' q'
    · cases e5
      obtain ⟨p, vs, rfl, h1, q⟩ := vw_scr r3.sub w
      refine .inl ⟨p, vs, rfl, h1, fun t n => ?_⟩
      obtain ⟨r', q'⟩ := new_lst r3 (cut_rps q lo' hi') n
      exact k _ F3 _ (Le.refl F3) r' q'
    · cases e5
      obtain ⟨p, vs, rfl, h1, f1, q⟩ := vw_tup w
      refine .inr (.inl ⟨p, vs, rfl, SqT.of h1, fun z => ?_, fun z t n => ?_⟩)
      · refine k _ F3 H3 (Le.refl F3) r3 (rv_tup f1 ?_)
        have := cut_rps q lo' hi'
        have e : cutV vs lo' hi' = vs := by
          unfold cutV
          rw [z.1, z.2]; simp
        rwa [e] at this
      · obtain ⟨l4, r', q'⟩ := new_tup r3 (cut_rps q lo' hi') n
        exact k _ _ _ l4 r' q'
    · split at e5
      · rename_i z
        cases e5
        refine .inr (.inr ⟨_, vw_str w, by rw [S_len]; exact big_le z, ?_⟩)
        rw [cut_S]
        exact k _ F3 H3 (Le.refl F3) r3 rv_str
      · cases e5
    · cases e5⟩⟩⟩
def flatD : D → Bool
  | .non => true
  | .bl _ => true
  | .int _ => true
  | .str _ => true
  | _ => false
def inD (x : D) (l : List D) : Bool := l.any fun y => eqD y x
/-- a stands in s without a gap -/
def infB (a : List Nat) : List Nat → Bool
  | [] => a.isEmpty
  | c :: s => a.isPrefixOf (c :: s) || infB a s
theorem infB_iff {a : List Nat} : ∀ {s : List Nat}, infB a s = true ↔ ∃ i, i + a.length ≤ s.length ∧ (s.drop i).take a.length = a
  | [] => by
    unfold infB
    constructor
    · intro h
      have : a = [] := by simpa using h
      subst this
      exact ⟨0, Nat.le_refl _, rfl⟩
    · rintro ⟨i, h1, _⟩
      have : a = [] := List.length_eq_zero_iff.mp (by simp only [List.length_nil] at h1; omega)
      subst this; rfl
  | c :: s => by
    unfold infB
    rw [Bool.or_eq_true, List.isPrefixOf_iff_prefix, List.prefix_iff_eq_take, infB_iff (s := s)]
    constructor
    · rintro (h | ⟨i, h1, h2⟩)
      · refine ⟨0, ?_, by rw [List.drop_zero]; exact h.symm⟩
        have := congrArg List.length h
        rw [List.length_take] at this
        omega
      · exact ⟨i + 1, by simp only [List.length_cons]; omega, by simpa using h2⟩
    · rintro ⟨i, h1, h2⟩
      cases i with
      | zero => exact .inl (by rw [List.drop_zero] at h2; exact h2.symm)
      | succ i => exact .inr ⟨i, by simp only [List.length_cons] at h1; omega, by simpa using h2⟩
theorem inf_occ (a s : List Nat) : (!(Builtin.Str.occurrences (S s) (S a) 0 (S s).length 1).isEmpty) = infB a s := by
  rw [Bool.eq_iff_iff, StrLaws.found_iff, infB_iff]
  constructor
  · rintro ⟨i, h1, h2⟩
    rw [StrLaws.subAt_eq] at h2
    rw [S_len, S_len] at h1
    simp only [S_toList, S_len, beq_iff_eq] at h2
    exact ⟨i, h1, h2⟩
  · rintro ⟨i, h1, h2⟩
    refine ⟨i, by rw [S_len, S_len]; exact h1, ?_⟩
    rw [StrLaws.subAt_eq]
    simp only [S_toList, S_len, beq_iff_eq]
    exact h2
def inT (x y : D) : Option Bool := match y with
  | .lst l => if flatD x && l.all flatD then some (inD x l) else if okD 64 x && okD 64 (.lst l) then some (inD x l) else none
  | .scr l => if flatD x && l.all flatD then some (inD x l) else none
  | .tup l => if flatD x && l.all flatD then some (inD x l) else none
  | .str s => match x with
    | .str [c] => some (decide (c ∈ s))
    | .str a => some (infB a s)
    | _ => none
  | _ => none
theorem rp_flat {d : D} {v : V} (f : flatD d = true) (r : Rp K F d v) : flatV v = true := by
  cases d <;> first | (cases f; done) | (simp only [Rp] at r; subst r; rfl)
theorem rp_eqV {d e : D} {v w : V} (f : flatD d = true) (f' : flatD e = true) (r : Rp K F d v) (r' : Rp K F e w) : eqV v w = eqD d e := by
  cases d <;> cases e <;> first
    | (cases f; done) | (cases f'; done)
    | (simp only [Rp] at r r'; subst r; subst r'; simp only [eqV, eqD]; done)
    | (simp only [Rp] at r r'; subst r; subst r'; simp only [eqV, eqD]; exact S_beq _ _)
    | (simp only [Rp] at r r'; subst r; subst r'; simp only [eqV, eqD]; exact (by simp [BEq.beq]))
theorem rps_flat : ∀ {l : List D} {vs : List V}, l.all flatD = true → Rps K F l vs → vs.all flatV = true
  | [], vs, _, r => by simp only [Rps] at r; subst r; rfl
  | d :: l, vs, f, r => by
    obtain ⟨v, q, rfl, r1, r2⟩ := r.cases1
    simp only [List.all_cons, Bool.and_eq_true] at f ⊢
    exact ⟨rp_flat f.1 r1, rps_flat f.2 r2⟩
theorem inV_eq {d : D} {v : V} (f : flatD d = true) (r : Rp K F d v) : ∀ {l : List D} {vs : List V}, l.all flatD = true → Rps K F l vs → inV v vs = inD d l
  | [], vs, _, q => by simp only [Rps] at q; subst q; rfl
  | e :: l, vs, g, q => by
    obtain ⟨w, q', rfl, r1, r2⟩ := q.cases1
    simp only [List.all_cons, Bool.and_eq_true] at g
    have := inV_eq f r g.2 r2
    unfold inV inD at this ⊢
    rw [List.any_cons, List.any_cons, rp_eqV g.1 f r1 r, this]
theorem anyP {l : List D} {x : D} : ((toPs l).any fun z => PyData.eqv z (toP x)) = inD x l := by
  induction l with
  | nil => simp [toPs, inD]
  | cons d l ih => simp only [toPs, inD, List.any_cons, eqv_toP]; rw [ih]; rfl
theorem vw_flat {d : D} {v : V} (f : flatD d = true) (w : Vw K F H d v) : Rp K F d v := by
  cases d <;> first | (cases f; done) | exact w
def opIn (x y : D) : Option Va := (inT x y).map fun b => .sh (.bl b)
def opNotIn (x y : D) : Option Va := (inT x y).map fun b => .sh (.bl (!b))
theorem in_cases {dx dy : D} {b : Bool} {x y : V} (s : Sub F H) (vx : Vw K F H dx x) (vy : Vw K F H dy y) (e : inT dx dy = some b) :
    (∃ p xs, y = .ref p ∧ (SqL K H p xs ∨ SqT K H p xs) ∧ flatV x = true ∧ xs.all flatV = true ∧ inV x xs = b) ∨ (∃ d ds, Dp K H x d ∧ Dp K H y (.list ds) ∧ SeqAt.shaped d = true ∧ SeqAt.shaped (.list ds) = true ∧ (ds.any fun z => PyData.eqv z d) = b) ∨
    (∃ (c : Nat) (z : Str), x = .str ⟨#[c]⟩ ∧ y = .str z ∧ decide (c ∈ z.cps.toList) = b) ∨ ∃ a s, x = .str (S a) ∧ y = .str (S s) ∧ infB a s = b := by
  unfold inT at e
  split at e
  · split at e
    · rename_i l z
      cases e
      obtain ⟨z1, z2⟩ := Bool.and_eq_true_iff.mp z
      obtain ⟨a, vs, rfl, h1, q⟩ := vw_lst vy
      have rx := vw_flat z1 vx
      exact .inl ⟨a, vs, rfl, .inl (SqL.of h1), rp_flat z1 rx, rps_flat z2 q, inV_eq z1 rx z2 q⟩
    · split at e
      · rename_i l _ z
        cases e
        obtain ⟨z1, z2⟩ := Bool.and_eq_true_iff.mp z
        have h2 := dp_vw s z2 vy
        simp only [toP] at h2
        have h3 := okD_shaped z2
        simp only [toP] at h3
        exact .inr (.inl ⟨_, _, dp_vw s z1 vx, h2, okD_shaped z1, h3, anyP⟩)
      · cases e
  · split at e
    · rename_i l z
      cases e
      obtain ⟨z1, z2⟩ := Bool.and_eq_true_iff.mp z
      obtain ⟨a, vs, rfl, h1, q⟩ := vw_scr s vy
      have rx := vw_flat z1 vx
      exact .inl ⟨a, vs, rfl, .inl h1, rp_flat z1 rx, rps_flat z2 q, inV_eq z1 rx z2 q⟩
    · cases e
  · split at e
    · rename_i l z
      cases e
      obtain ⟨z1, z2⟩ := Bool.and_eq_true_iff.mp z
      obtain ⟨a, vs, rfl, h1, f1, q⟩ := vw_tup vy
      have rx := vw_flat z1 vx
      exact .inl ⟨a, vs, rfl, .inr (SqT.of h1), rp_flat z1 rx, rps_flat z2 q, inV_eq z1 rx z2 q⟩
    · cases e
  · split at e
    · cases e
      exact .inr (.inr (.inl ⟨_, _, vw_str vx, vw_str vy, by rw [S_toList]⟩))
    · cases e
      exact .inr (.inr (.inr ⟨_, _, vw_str vx, vw_str vy, rfl⟩))
    · cases e
  · cases e
theorem bo_in (hu : X.A.units + 65 < cLine) : BO X (compareOp .In) opIn := ⟨_, OpR.or op_in_seq (OpR.or (op_inD hu) (OpR.or op_in_sign op_in_str)), fun G F H ρ σ x y dx dy s Q r vx vy e k => by
  obtain ⟨b, e1, rfl⟩ := map_some' e
  rcases in_cases r.sub vx vy e1 with ⟨p, xs, rfl, h1, h2, h3, rfl⟩ | ⟨d, ds, h1, h2, h3, h4, rfl⟩ | ⟨c, z, rfl, rfl, rfl⟩ | ⟨a, z, rfl, rfl, rfl⟩
  · exact .inl ⟨p, xs, rfl, h1, h2, h3, k _ F H (Le.refl F) r rv_bl⟩
  · exact .inr (.inl ⟨d, ds, h1, h2, h3, h4, k _ F H (Le.refl F) r rv_bl⟩)
  · exact .inr (.inr (.inl ⟨c, z, rfl, rfl, k _ F H (Le.refl F) r rv_bl⟩))
  · refine .inr (.inr (.inr ⟨_, _, rfl, rfl, ?_⟩))
    rw [inf_occ]
    exact k _ F H (Le.refl F) r rv_bl⟩
theorem bo_notIn (hu : X.A.units + 65 < cLine) : BO X (compareOp .NotIn) opNotIn := ⟨_, OpR.or op_notIn_seq (OpR.or (op_notInD hu) (OpR.or op_notIn_sign op_notIn_str)), fun G F H ρ σ x y dx dy s Q r vx vy e k => by
  obtain ⟨b, e1, rfl⟩ := map_some' e
  rcases in_cases r.sub vx vy e1 with ⟨p, xs, rfl, h1, h2, h3, rfl⟩ | ⟨d, ds, h1, h2, h3, h4, rfl⟩ | ⟨c, z, rfl, rfl, rfl⟩ | ⟨a, z, rfl, rfl, rfl⟩
  · exact .inl ⟨p, xs, rfl, h1, h2, h3, k _ F H (Le.refl F) r rv_bl⟩
  · exact .inr (.inl ⟨d, ds, h1, h2, h3, h4, k _ F H (Le.refl F) r rv_bl⟩)
  · exact .inr (.inr (.inl ⟨c, z, rfl, rfl, k _ F H (Le.refl F) r rv_bl⟩))
  · refine .inr (.inr (.inr ⟨_, _, rfl, rfl, ?_⟩))
    rw [inf_occ]
    exact k _ F H (Le.refl F) r rv_bl⟩
end
end Z
namespace Z
open PySem PySem.Spec L2
section
variable {X : Cx} {W : WX} {K : Frag} {G : Gh} {F F' H H' : Hp} {σ σ' : St} {ρ ρ' : Ev} {En : Ends} {α β : Type} {pos : Pos} {v x y : V}
def VwL (K : Frag) (F H : Hp) : List D → List V → Prop
  | [], vs => vs = []
  | d :: l, vs => ∃ v r, vs = v :: r ∧ Vw K F H d v ∧ VwL K F H l r
def getL (ρ : Ev) : List Va → Option (List D)
  | [] => some []
  | a :: as => (a.get ρ).bind fun d => (getL ρ as).bind fun l => some (d :: l)
theorem views (r : Rep X.K G F H ρ σ) : ∀ {as : List Va} {vs : List V} {ds : List D}, ResL X.K G σ F H ρ as vs → getL ρ as = some ds → VwL X.K F H ds vs
  | [], vs, ds, q, e => by cases e; exact q
  | a :: as, vs, ds, ⟨v, w, ev, na, q1, q2⟩, e => by
    obtain ⟨d, e1, e⟩ := bind_some e
    obtain ⟨l, e2, e⟩ := bind_some e
    cases e
    exact ⟨v, w, ev, r.view q1 e1, views r q2 e2⟩
def CallS (X : Cx) (r : List V → Hp → VK → Prop) (o : List D → Option Va) : Prop := ∀ (G : Gh) (F H : Hp) (ρ : Ev) (σ : St) (xs : List V) (ds : List D) (s : Va) (Q : VK), Rep X.K G F H ρ σ → VwL X.K F H ds xs → o ds = some s →
  (∀ v F' H', Le F F' → Rep X.K G F' H' ρ σ → ResV X.K G σ F' H' ρ s v → Q v H') → r xs H Q
/-- a builtin's call is computed by o -/
def BF (X : Cx) (f : Value) (o : List D → Option Va) : Prop := ∃ r, CallR X f r ∧ CallS X r o
def M.useL (o : List D → Option Va) (as : List Va) : M Va := M.ofO fun ρ => (getL ρ as).bind o
def M.blt (o : List D → Option Va) (ms : M (List Va)) : M Va := ms.bind (M.useL o)
theorem blt_read {r : List V → Hp → VK → Prop} {o : List D → Option Va} {ms : M (List Va)} (hs : CallS X r o) (σ : St) (H : Hp) (Q : VK) (h : tG X W G (ResV X.K G) (M.blt o ms) σ H Q) : tCB r (tG X W G (ResL X.K G) ms) σ H Q := by
  obtain ⟨F, ρ, rp, p⟩ := h
  refine ⟨F, ρ, rp, Post.bind p fun xs F1 H1 ρ1 as e l1 r1 q1 p1 => ?_⟩
  obtain ⟨s, e1, k⟩ := ofO_post p1
  obtain ⟨ds, g, e2⟩ := bind_some e1
  exact hs G F1 H1 ρ1 σ xs ds s Q r1 (views r1 q1 g) e2 k
theorem em_blt {id : String} {x : Str} {p : Pos} {e : Expr} {es : List Expr} {o : List D → Option Va} {ms : M (List Va)} (h : BF X (.builtin id) o) (hm : X.mg x = none) (hv : bootBuiltins x = some (.builtin id)) (ha : AM X W (e :: es) ms) (hg : Gl X x := by rfl) (hn : x ≠ "__name__" := by decide) (hdb : (x == ("__debug__" : Str)) = false := by decide)
    (he : starEach (e :: es) X.env = (false, eval e X.env) :: starEach es X.env := by rfl) (hpl : (backTo pos (starEach es X.env)).any (·.1) = false := by rfl) : EM X W (.Call (.Name x p) (e :: es) [] pos) (M.blt o ms) := by
  obtain ⟨r, hc, hs⟩ := h
  exact fun G => pe_weak (pe_callB hc hg hm hv (ha G) hn hdb he hpl) (blt_read hs)
theorem em_bty {T : String} {x : Str} {p : Pos} {e : Expr} {es : List Expr} {o : List D → Option Va} {ms : M (List Va)} (h : BF X (.type T) o) (hm : X.mg x = none) (hv : bootBuiltins x = some (.type T)) (ha : AM X W (e :: es) ms) (hg : Gl X x := by rfl) (hn : x ≠ "__name__" := by decide) (hdb : (x == ("__debug__" : Str)) = false := by decide)
    (he : starEach (e :: es) X.env = (false, eval e X.env) :: starEach es X.env := by rfl) (hpl : (backTo pos (starEach es X.env)).any (·.1) = false := by rfl) : EM X W (.Call (.Name x p) (e :: es) [] pos) (M.blt o ms) := by
  obtain ⟨r, hc, hs⟩ := h
  exact fun G => pe_weak (pe_callTy hc hg hm hv (ha G) hn hdb he hpl) (blt_read hs)
theorem vwl1 {d : D} {xs : List V} (h : VwL K F H [d] xs) : ∃ v, xs = [v] ∧ Vw K F H d v := by
  obtain ⟨v, r, e, w, e2⟩ := h
  have e2 : r = [] := e2
  subst e2
  exact ⟨v, e, w⟩
def signs (z : Str) : List V := z.cps.toList.map fun c => V.str ⟨#[c]⟩
theorem vals_signs {z : Str} {acc : Array Value} (h : ItemsOf (SignAt z) acc z.cps.size) : Vals (signs z) acc.toList := by
  refine vals_of_at ?_ fun j x u e1 e2 => ?_
  · unfold signs; rw [List.length_map, Array.length_toList, Array.length_toList, h.1]
  · have e2 : acc[j]? = some u := by simpa using e2
    obtain ⟨c, t, e3, rfl⟩ := h.2 j u e2
    unfold signs at e1
    rw [List.getElem?_map] at e1
    have e4 : z.cps.toList[j]? = some c := by simpa using e3
    rw [e4] at e1
    cases e1
    exact ⟨t, rfl⟩
theorem call_list_text (hc : X.calm = true) : CallR X (.type "list") (fun xs H Q => ∃ z, xs = [.str z] ∧ z.length ≤ sizeLine ∧ ∀ l, H l = none → Q (.ref l) (upd H l (.lst (signs z)))) := by
  intro pins s σ H xs us Q I r h
  obtain ⟨z, rfl, hz, q⟩ := h
  obtain ⟨u, rfl, t, rfl⟩ := vals1 r
  refine call_list_str (I.ok.hd hc) z t (hn := hz) fun h' tk acc c' kp e it => ?_
  exact ⟨.ref s.heap.objs.size, _, I.laid (t' := tk) kp (Nat.le_refl _) (show ObjOk X.prog X.w _ h' _ (.lst (signs z)) from ⟨by unfold signs; rw [List.length_map, Array.length_toList]; exact hz, acc.toList, c', vals_signs it, by simpa using e⟩), rfl, q _ (I.hok.fresh (Nat.le_refl _))⟩
theorem call_tuple_text (hc : X.calm = true) : CallR X (.type "tuple") (fun xs H Q => ∃ z, xs = [.str z] ∧ z.length ≤ sizeLine ∧ ∀ l, H l = none → Q (.ref l) (upd H l (.tup (signs z)))) := by
  intro pins s σ H xs us Q I r h
  obtain ⟨z, rfl, hz, q⟩ := h
  obtain ⟨u, rfl, t, rfl⟩ := vals1 r
  refine call_tuple_str (I.ok.hd hc) z t (fun h' tk acc kp it => ?_) (hsz := hz)
  have I1 : Inv X pins σ H { s with heap := h', toks := tk } := I.kept kp
  have I2 : Inv X pins σ (upd H h'.objs.size (.tup (signs z))) { s with heap := h'.push { cls := .type "tuple", data := .seq acc }, toks := tk } :=
    I1.laid (t' := tk) (fun b o e => Heap.get?_push_of_some _ e) (Nat.le_refl _) (show ObjOk X.prog X.w _ _ _ (.tup (signs z)) from ⟨by unfold signs; rw [List.length_map, Array.length_toList]; exact hz, acc.toList, vals_signs it, by
      have := PyProof.Rows.IsTup.new h' acc
      simpa using this⟩)
  exact ⟨.ref h'.objs.size, _, I2, rfl, q _ (I1.hok.fresh (Nat.le_refl _))⟩
theorem rps_signs (s : List Nat) : Rps K F (s.map fun c => .str [c]) (signs (S s)) := by
  unfold signs
  rw [S_toList]
  induction s with
  | nil => exact Rps.nil
  | cons c s ih => exact Rps.cons (by simp only [Rp, S]) ih
def opLen : List D → Option Va
  | [.lst l] => some (.sh (.int l.length))
  | [.tup l] => some (.sh (.int l.length))
  | [.scr l] => some (.sh (.int l.length))
  | [.str s] => if s.length ≤ big then some (.sh (.int s.length)) else none
  | _ => none
theorem bf_len : BF X (.builtin "len") opLen := ⟨_, call_len, fun G F H ρ σ xs ds s Q r vw e k => by
  unfold opLen at e
  split at e
  · cases e
    obtain ⟨w, rfl, w1⟩ := vwl1 vw
    obtain ⟨a, vs, rfl, h1, q⟩ := vw_lst w1
    refine ⟨_, vs.length, rfl, .inl ⟨vs, SqL.of h1, rfl⟩, ?_⟩
    rw [← q.length]; exact k _ F H (Le.refl F) r rv_int
  · cases e
    obtain ⟨w, rfl, w1⟩ := vwl1 vw
    obtain ⟨a, vs, rfl, h1, f1, q⟩ := vw_tup w1
    refine ⟨_, vs.length, rfl, .inr ⟨vs, SqT.of h1, rfl⟩, ?_⟩
    rw [← q.length]; exact k _ F H (Le.refl F) r rv_int
  · cases e
    obtain ⟨w, rfl, w1⟩ := vwl1 vw
    obtain ⟨a, vs, rfl, h1, q⟩ := vw_scr r.sub w1
    refine ⟨_, vs.length, rfl, .inl ⟨vs, h1, rfl⟩, ?_⟩
    rw [← q.length]; exact k _ F H (Le.refl F) r rv_int
  · split at e
    · rename_i z
      cases e
      obtain ⟨w, rfl, w1⟩ := vwl1 vw
      rw [vw_str w1]
      refine ⟨_, _, rfl, ⟨by rw [S_len]; exact big_le z, rfl⟩, ?_⟩
      rw [S_len]; exact k _ F H (Le.refl F) r rv_int
    · cases e
  · cases e⟩
def opList : List D → Option Va
  | [.lst l] => some (.nw (.lst l))
  | [.tup l] => some (.nw (.lst l))
  | [.scr l] => some (.nw (.lst l))
  | [.str s] => if s.length ≤ big then some (.nw (.lst (s.map fun c => .str [c]))) else none
  | _ => none
theorem bf_list (hc : X.calm = true) : BF X (.type "list") opList := ⟨_, CallR.or call_list_of (call_list_text hc), fun G F H ρ σ xs ds s Q r vw e k => by
  unfold opList at e
  split at e
  · cases e
    obtain ⟨w, rfl, w1⟩ := vwl1 vw
    obtain ⟨a, vs, rfl, h1, q⟩ := vw_lst w1
    exact .inl ⟨a, vs, rfl, .inl (SqL.of h1), fun p n => let ⟨r', q'⟩ := new_lst r q n; k _ F _ (Le.refl F) r' q'⟩
  · cases e
    obtain ⟨w, rfl, w1⟩ := vwl1 vw
    obtain ⟨a, vs, rfl, h1, f1, q⟩ := vw_tup w1
    exact .inl ⟨a, vs, rfl, .inr (SqT.of h1), fun p n => let ⟨r', q'⟩ := new_lst r q n; k _ F _ (Le.refl F) r' q'⟩
  · cases e
    obtain ⟨w, rfl, w1⟩ := vwl1 vw
    obtain ⟨a, vs, rfl, h1, q⟩ := vw_scr r.sub w1
    exact .inl ⟨a, vs, rfl, .inl h1, fun p n => let ⟨r', q'⟩ := new_lst r q n; k _ F _ (Le.refl F) r' q'⟩
  · split at e
    · rename_i s z
      cases e
      obtain ⟨w, rfl, w1⟩ := vwl1 vw
      rw [vw_str w1]
      exact .inr ⟨_, rfl, by rw [S_len]; exact big_le z, fun p n => let ⟨r', q'⟩ := new_lst r (rps_signs s) n; k _ F _ (Le.refl F) r' q'⟩
    · cases e
  · cases e⟩
def opTuple : List D → Option Va
  | [.lst l] => some (.sh (.tup l))
  | [.scr l] => some (.sh (.tup l))
  | [.tup l] => some (.sh (.tup l))
  | [.str s] => if s.length ≤ big then some (.sh (.tup (s.map fun c => .str [c]))) else none
  | _ => none
theorem bf_tuple (hc : X.calm = true) : BF X (.type "tuple") opTuple := ⟨_, CallR.or call_tuple_of (call_tuple_text hc), fun G F H ρ σ xs ds s Q r vw e k => by
  unfold opTuple at e
  split at e
  · cases e
    obtain ⟨w, rfl, w1⟩ := vwl1 vw
    obtain ⟨a, vs, rfl, h1, q⟩ := vw_lst w1
    exact .inl ⟨a, vs, rfl, .inl ⟨SqL.of h1, fun p n => let ⟨l, r', q'⟩ := new_tup r q n; k _ _ _ l r' q'⟩⟩
  · cases e
    obtain ⟨w, rfl, w1⟩ := vwl1 vw
    obtain ⟨a, vs, rfl, h1, q⟩ := vw_scr r.sub w1
    exact .inl ⟨a, vs, rfl, .inl ⟨h1, fun p n => let ⟨l, r', q'⟩ := new_tup r q n; k _ _ _ l r' q'⟩⟩
  · cases e
    obtain ⟨w, rfl, w1⟩ := vwl1 vw
    obtain ⟨a, vs, rfl, h1, f1, q⟩ := vw_tup w1
    exact .inl ⟨a, vs, rfl, .inr ⟨SqT.of h1, k _ F H (Le.refl F) r (rv_tup f1 q)⟩⟩
  · split at e
    · rename_i s z
      cases e
      obtain ⟨w, rfl, w1⟩ := vwl1 vw
      rw [vw_str w1]
      exact .inr ⟨_, rfl, by rw [S_len]; exact big_le z, fun p n => let ⟨l, r', q'⟩ := new_tup r (rps_signs s) n; k _ _ _ l r' q'⟩
    · cases e
  · cases e⟩
/-- lists of truths, of ints, of texts -/
def allB : List D → Option (List Bool)
  | [] => some []
  | .bl b :: l => (allB l).map (b :: ·)
  | _ => none
def allT : List D → Option (List (List Nat))
  | [] => some []
  | .str b :: l => (allT l).map (b :: ·)
  | _ => none
theorem allB_rps : ∀ {l : List D} {vs : List V} {bs : List Bool}, Rps K F l vs → allB l = some bs → vs = bs.map V.bl
  | [], vs, bs, r, e => by cases e; simp only [Rps] at r; rw [r]; rfl
  | d :: l, vs, bs, r, e => by
    unfold allB at e
    split at e
    · rename_i h; cases h
    · rename_i b l' h
      cases h
      obtain ⟨bs', e1, rfl⟩ := map_some' e
      obtain ⟨v, q, rfl, r1, r2⟩ := r.cases1
      simp only [Rp] at r1
      rw [r1, allB_rps r2 e1]; rfl
    · cases e
theorem allT_rps : ∀ {l : List D} {vs : List V} {bs : List (List Nat)}, Rps K F l vs → allT l = some bs → vs = (bs.map S).map V.str
  | [], vs, bs, r, e => by cases e; simp only [Rps] at r; rw [r]; rfl
  | d :: l, vs, bs, r, e => by
    unfold allT at e
    split at e
    · rename_i h; cases h
    · rename_i b l' h
      cases h
      obtain ⟨bs', e1, rfl⟩ := map_some' e
      obtain ⟨v, q, rfl, r1, r2⟩ := r.cases1
      simp only [Rp] at r1
      rw [r1, allT_rps r2 e1]; rfl
    · cases e
def opAll : List D → Option Va
  | [.lst l] => (allB l).map fun bs => .sh (.bl (bs.all id))
  | _ => none
theorem bf_all (hc : X.calm = true) : BF X (.builtin "all") opAll := ⟨_, cr_all hc, fun G F H ρ σ xs ds s Q r vw e k => by
  unfold opAll at e
  split at e
  · obtain ⟨bs, e1, rfl⟩ := map_some' e
    obtain ⟨w, rfl, w1⟩ := vwl1 vw
    obtain ⟨a, vs, rfl, h1, q⟩ := vw_lst w1
    exact ⟨a, bs, rfl, SqL.of (by rw [← allB_rps q e1]; exact h1), k _ F H (Le.refl F) r rv_bl⟩
  · cases e⟩
def opIntC : List D → Option Va
  | [.int i] => some (.sh (.int i))
  | [.bl b] => some (.sh (.int (if b then 1 else 0)))
  | _ => none
theorem bf_int : BF X (.type "int") opIntC := ⟨_, call_int1, fun G F H ρ σ xs ds s Q r vw e k => by
  unfold opIntC at e
  split at e
  · cases e
    obtain ⟨w, rfl, w1⟩ := vwl1 vw
    rw [vw_int w1]
    exact .inl ⟨_, rfl, k _ F H (Le.refl F) r rv_int⟩
  · cases e
    obtain ⟨w, rfl, w1⟩ := vwl1 vw
    rw [vw_bl w1]
    exact .inr ⟨_, rfl, k _ F H (Le.refl F) r rv_int⟩
  · cases e⟩
end
end Z
namespace Z
open PySem PySem.Spec L2
section
variable {X : Cx} {W : WX} {K : Frag} {G : Gh} {F F' H H' : Hp} {σ σ' : St} {ρ ρ' : Ev} {En : Ends} {α β : Type} {pos apos cpos : Pos} {v x y : V}
def isK (T : String) : D → Bool
  | .str _ => T == "str"
  | .lst _ => T == "list"
  | .scr _ => T == "list"
  | _ => false
theorem tyV_of {T : String} {d : D} (s : Sub F H) (k : isK T d = true) (w : Vw K F H d v) : tyV K T v H := by
  cases d <;> first | (cases k; done) | skip
  · rw [vw_str w]; exact eq_of_beq k
  · obtain ⟨a, vs, rfl, h1, q⟩ := vw_lst w
    exact .inl ⟨eq_of_beq k, vs, SqL.of h1⟩
  · obtain ⟨a, vs, rfl, h1, q⟩ := vw_scr s w
    exact .inl ⟨eq_of_beq k, vs, h1⟩
def M.kind (T : String) (m : M Va) : M Va := m.fz.bind fun a ρ => match a.get ρ with
  | some d => if isK T d then .ok a ρ else .bad
  | none => .bad
theorem kind_post {T : String} {m : M Va} {k : Va → M Va} {Q : VK} {Q1 : VK} (p : Post X W G F σ (ResV X.K G σ) ((M.kind T m).bind k ρ) Q)
    (i : ∀ v F1 H1 ρ1 a, Le F F1 → Rep X.K G F1 H1 ρ1 σ → ResV X.K G σ F1 H1 ρ1 a v → (∀ d, a ≠ .nw d) → tyV X.K T v H1 → Post X W G F1 σ (ResV X.K G σ) (k a ρ1) Q → Q1 v H1) : Post X W G F σ (ResV X.K G σ) (m.fz ρ) Q1 := by
  unfold M.kind M.bind at p
  cases e : m.fz ρ with
  | bad => rw [e] at p; exact p.elim
  | exc c d ρ' => rw [e] at p; exact p
  | ok a ρ1 =>
    rw [e] at p
    simp only [R.bind] at p
    intro v F1 H1 l1 r1 q1
    cases g : a.get ρ1 with
    | none => rw [g] at p; exact p.elim
    | some d =>
      rw [g] at p
      dsimp only at p
      by_cases z : isK T d = true
      · rw [if_pos z] at p
        exact i v F1 H1 ρ1 a l1 r1 q1 (fz_inv e) (tyV_of r1.sub z (r1.view q1 g)) (Post.le l1 p)
      · rw [if_neg z] at p; exact p.elim
def MethS (X : Cx) (r : V → List V → Hp → VK → Prop) (o : D → List D → Option Va) : Prop := ∀ (G : Gh) (F H : Hp) (ρ : Ev) (σ : St) (x : V) (xs : List V) (dx : D) (ds : List D) (s : Va) (Q : VK), Rep X.K G F H ρ σ → Vw X.K F H dx x → VwL X.K F H ds xs → o dx ds = some s →
  (∀ v F' H', Le F F' → Rep X.K G F' H' ρ σ → ResV X.K G σ F' H' ρ s v → Q v H') → r x xs H Q
/-- a method of a built-in type is computed by o -/
def MO (X : Cx) (id : String) (o : D → List D → Option Va) : Prop := ∃ r, MtR X id r ∧ MethS X r o
def M.useM (o : D → List D → Option Va) (a : Va) (as : List Va) : M Va := M.ofO fun ρ => (a.get ρ).bind fun d => (getL ρ as).bind fun l => o d l
def M.meth0 (T : String) (o : D → List D → Option Va) (m : M Va) : M Va := (M.kind T m).bind fun a => M.useM o a []
def M.meth (T : String) (o : D → List D → Option Va) (m : M Va) (ms : M (List Va)) : M Va := (M.kind T m).bind fun a => ms.bind fun as => M.useM o a as
theorem useM_post {r : V → List V → Hp → VK → Prop} {o : D → List D → Option Va} (hs : MethS X r o) {a : Va} {as : List Va} {x : V} {xs : List V} {Q : VK} (rp : Rep X.K G F H ρ σ) (qa : ResV X.K G σ F H ρ a x) (ql : ResL X.K G σ F H ρ as xs)
    (p : Post X W G F σ (ResV X.K G σ) (M.useM o a as ρ) Q) : r x xs H Q := by
  obtain ⟨s, e, p⟩ := ofO_post p
  obtain ⟨dx, ga, e⟩ := bind_some e
  obtain ⟨ds, gl, e⟩ := bind_some e
  exact hs G F H ρ σ x xs dx ds s Q rp (rp.view qa ga) (views rp ql gl) e p
theorem em_m0 {T id : String} {name : Str} {e : Expr} {m : M Va} {o : D → List D → Option Va} (h : MO X id o) (pa : PlainAttrs T) (slot : Slot T name id) (hty : typeOf (.builtin id) = pure (.type "method_descriptor")) (he : EM X W e m)
    (hbase : attributeBase e name X.env (eval e X.env) = eval e X.env := by rfl) (hline : (apos.endLine == cpos.line) = true := by rfl) : EM X W (.Call (.Attribute e name apos) [] [] cpos) (M.meth0 T o m) := by
  obtain ⟨r, hm, hs⟩ := h
  exact fun G => pe_weak (pe_bm0 pa slot hty hm (he.fz G) hbase hline) fun σ H Q ⟨F, ρ, rp, p⟩ => ⟨F, ρ, rp, kind_post p fun v F1 H1 ρ1 a l1 r1 q1 na ty p1 => ⟨ty, useM_post (as := []) hs r1 q1 rfl p1⟩⟩
theorem em_m {T id : String} {name : Str} {e a : Expr} {es : List Expr} {m : M Va} {ms : M (List Va)} {o : D → List D → Option Va} (h : MO X id o) (pa : PlainAttrs T) (slot : Slot T name id) (hty : typeOf (.builtin id) = pure (.type "method_descriptor")) (he : EM X W e m) (ha : AM X W (a :: es) ms)
    (hbase : attributeBase e name X.env (eval e X.env) = eval e X.env := by rfl)
    (hfew : ((backTo cpos (starEach (a :: es) X.env)).all (fun x => !x.1) && (backToKw cpos (keywordEach [] X.env)).all (fun x => x.1.isSome)
      && decide ((a :: es).length + ([] : List Keyword).length + (if ([] : List Keyword).isEmpty then 0 else 1) < 30)) = true := by rfl)
    (hline : (apos.endLine == cpos.line) = true := by rfl) (hs : starEach (a :: es) X.env = (false, eval a X.env) :: starEach es X.env := by rfl) (hplain : (backTo cpos (starEach es X.env)).any (·.1) = false := by rfl) : EM X W (.Call (.Attribute e name apos) (a :: es) [] cpos) (M.meth T o m ms) := by
  obtain ⟨r, hm, hss⟩ := h
  exact fun G => pe_weak (pe_bm pa slot hty hm (he.fz G) (ha G) hbase hfew hline hs hplain) fun σ H Q ⟨F, ρ, rp, p⟩ => ⟨F, ρ, rp, kind_post p fun v F1 H1 ρ1 a l1 r1 q1 na ty p1 => ⟨ty, F1, ρ1, r1, Post.bind p1 fun xs F2 H2 ρ2 as e2 l2 r2 q2 p2 => useM_post hss r2 (q1.mono l2.r na) q2 p2⟩⟩
def opS0 (c : List Nat → Bool) (g : List Nat → Va) : D → List D → Option Va
  | .str s, [] => if c s then some (g s) else none
  | _, _ => none
theorem ms0 {C : Str → Prop} {g : Str → V} {c : List Nat → Bool} {g' : List Nat → Va} (hc : ∀ s, c s = true → C (S s)) (hg : ∀ (G : Gh) (σ : St) (F H : Hp) (ρ : Ev) s, ResV X.K G σ F H ρ (g' s) (g (S s))) : MethS X (fun x xs H Q => ∃ a, x = .str a ∧ xs = [] ∧ C a ∧ Q (g a) H) (opS0 c g') := fun G F H ρ σ x xs dx ds s Q r vx vl e k => by
  unfold opS0 at e
  split at e
  · split at e
    · rename_i s' z
      cases e
      have vl : xs = [] := vl
      exact ⟨_, vw_str vx, vl, hc _ z, k _ F H (Le.refl F) r (hg G σ F H ρ _)⟩
    · cases e
  · cases e
def opIslower := opS0 (fun _ => true) fun s => .sh (.bl (Txt.islower (S s)))
def opLower := opS0 (fun s => decide (s.length ≤ 5592405)) fun s => .sh (.str (Txt.lower (S s)).cps.toList)
def opUpper := opS0 (fun s => decide (s.length ≤ 5592405)) fun s => .sh (.str (Txt.upper (S s)).cps.toList)
theorem big_case {s : List Nat} (h : decide (s.length ≤ 5592405) = true) : (S s).length ≤ 5592405 := by
  rw [S_len]; exact Nat.le_trans (of_decide_eq_true h) (by decide)
theorem mo_islower : MO X "str.islower" opIslower := ⟨_, mt_islower, ms0 (fun _ _ => trivial) fun _ _ _ _ _ _ => rv_bl⟩
theorem rv_strS {z : Str} : ResV K G σ F H ρ (.sh (.str z.cps.toList)) (.str z) := by simp only [ResV, Rp]; rw [S_cps]
theorem mo_lower : MO X "str.lower" opLower := ⟨_, mt_lower, ms0 (C := fun a => a.length ≤ 5592405) (fun _ h => big_case h) fun _ _ _ _ _ _ => rv_strS⟩
theorem mo_upper : MO X "str.upper" opUpper := ⟨_, mt_upper, ms0 (C := fun a => a.length ≤ 5592405) (fun _ h => big_case h) fun _ _ _ _ _ _ => rv_strS⟩
/-- sep.join(texts) -/
def joinD (a : List Nat) : List (List Nat) → List Nat
  | [] => []
  | [p] => p
  | p :: q :: r => p ++ (a ++ joinD a (q :: r))
theorem join_S (a : List Nat) : ∀ l : List (List Nat), Str.join (S a) (l.map S) = S (joinD a l)
  | [] => rfl
  | [_] => rfl
  | x :: z :: r => by
    show S x ++ S a ++ Str.join (S a) ((z :: r).map S) = S (x ++ (a ++ joinD a (z :: r)))
    rw [join_S a (z :: r), S_app, S_app, List.append_assoc]
def opJoin : D → List D → Option Va
  | .str a, [.lst l] => (allT l).bind fun ts => if (ts.map List.length).sum + ts.length * a.length ≤ big then some (.sh (.str (joinD a ts))) else none
  | .str a, [.tup l] => (allT l).bind fun ts => if (ts.map List.length).sum + ts.length * a.length ≤ big then some (.sh (.str (joinD a ts))) else none
  | _, _ => none
theorem len_mapS (ts : List (List Nat)) : (ts.map S).map (·.length) = ts.map List.length := by
  rw [List.map_map]; exact List.map_congr_left fun x _ => S_len x
theorem mo_join : MO X "str.join" opJoin := ⟨_, mt_join, fun G F H ρ σ x xs dx ds s Q r vx vl e k => by
  unfold opJoin at e
  split at e
  · obtain ⟨ts, e1, e⟩ := bind_some e
    split at e
    · rename_i z
      cases e
      obtain ⟨w, rfl, w1⟩ := vwl1 vl
      obtain ⟨p, vs, rfl, h1, q⟩ := vw_lst w1
      refine ⟨_, p, ts.map S, vw_str vx, rfl, .inl (SqL.of (by rw [← allT_rps q e1]; exact h1)), ?_, ?_⟩
      · rw [len_mapS, List.length_map, S_len]; exact big_le z
      · rw [TL.join_eq, join_S]; exact k _ F H (Le.refl F) r rv_str
    · cases e
  · obtain ⟨ts, e1, e⟩ := bind_some e
    split at e
    · rename_i z
      cases e
      obtain ⟨w, rfl, w1⟩ := vwl1 vl
      obtain ⟨p, vs, rfl, h1, f1, q⟩ := vw_tup w1
      refine ⟨_, p, ts.map S, vw_str vx, rfl, .inr (SqT.of (by rw [← allT_rps q e1]; exact h1)), ?_, ?_⟩
      · rw [len_mapS, List.length_map, S_len]; exact big_le z
      · rw [TL.join_eq, join_S]; exact k _ F H (Le.refl F) r rv_str
    · cases e
  · cases e⟩
def MutS (X : Cx) (r : V → List V → Hp → VK → Prop) (o : List D → List D → Option (D × List D)) : Prop := ∀ (F H : Hp) (a : Addr) (xs vs : List V) (l ds : List D) (res : D) (l' : List D) (Q : VK), H a = some (.lst vs) → Rps X.K F l vs → Rps X.K F ds xs → o l ds = some (res, l') →
  (∀ v vs', Rp X.K F res v → Rps X.K F l' vs' → Q v (upd H a (.lst vs'))) → r (.ref a) xs H Q
def MU (X : Cx) (id : String) (o : List D → List D → Option (D × List D)) : Prop := ∃ r, MtR X id r ∧ MutS X r o
def M.useU (o : List D → List D → Option (D × List D)) (a : Va) (ds : List D) : M Va := fun ρ => match a with
  | .at j => match ρ[j]? with
    | some (.ow p false (.lst l)) => match o l ds with
      | some (res, l') => .ok (.sh res) (ρ.set j (.ow p false (.lst l')))
      | none => .bad
    | _ => .bad
  | _ => .bad
def M.mut0 (o : List D → List D → Option (D × List D)) (m : M Va) : M Va := (M.kind "list" m).bind fun a => M.useU o a []
def M.mut (o : List D → List D → Option (D × List D)) (m : M Va) (ms : M (List Va)) : M Va := (M.kind "list" m).bind fun a => ms.bind fun as => (M.shrs as).bind fun ds => M.useU o a ds
theorem useU_post {r : V → List V → Hp → VK → Prop} {o : List D → List D → Option (D × List D)} (hs : MutS X r o) {a : Va} {ds : List D} {x : V} {xs : List V} {Q : VK} (rp : Rep X.K G F H ρ σ) (qa : ResV X.K G σ F H ρ a x) (ql : Rps X.K F ds xs)
    (p : Post X W G F σ (ResV X.K G σ) (M.useU o a ds ρ) Q) : r x xs H Q := by
  unfold M.useU at p
  split at p
  · rename_i j
    have qa : σ[j]? = some (some x) := qa
    split at p
    · rename_i pp l e
      split at p
      · rename_i res l' eo
        obtain ⟨ov, ev, ad, rfl, n, qq, b0, b1, b2, b3, b4⟩ := rp.val e
        rw [qa] at ev; cases ev
        obtain ⟨vs, h1, h2⟩ := qq
        exact hs F H ad xs vs l ds res l' Q h1 h2 ql eo fun v vs' r1 r2 => p v F _ (Le.refl F) (rp.mut e qa ⟨vs', upd_same, r2⟩ fun ob u z => by cases z) r1
      · exact p.elim
    · exact p.elim
  · exact p.elim
theorem em_mut {id : String} {name : Str} {e a : Expr} {es : List Expr} {m : M Va} {ms : M (List Va)} {o : List D → List D → Option (D × List D)} (h : MU X id o) (slot : Slot "list" name id) (hty : typeOf (.builtin id) = pure (.type "method_descriptor")) (he : EM X W e m) (ha : AM X W (a :: es) ms)
    (hbase : attributeBase e name X.env (eval e X.env) = eval e X.env := by rfl)
    (hfew : ((backTo cpos (starEach (a :: es) X.env)).all (fun x => !x.1) && (backToKw cpos (keywordEach [] X.env)).all (fun x => x.1.isSome)
      && decide ((a :: es).length + ([] : List Keyword).length + (if ([] : List Keyword).isEmpty then 0 else 1) < 30)) = true := by rfl)
    (hline : (apos.endLine == cpos.line) = true := by rfl) (hs : starEach (a :: es) X.env = (false, eval a X.env) :: starEach es X.env := by rfl) (hplain : (backTo cpos (starEach es X.env)).any (·.1) = false := by rfl) : EM X W (.Call (.Attribute e name apos) (a :: es) [] cpos) (M.mut o m ms) := by
  obtain ⟨r, hm, hss⟩ := h
  refine fun G => pe_weak (pe_bm PySem.F.plainAttrs_list slot hty hm (he.fz G) (ha G) hbase hfew hline hs hplain) fun σ H Q ⟨F, ρ, rp, p⟩ => ⟨F, ρ, rp, kind_post p fun v F1 H1 ρ1 a l1 r1 q1 na ty p1 => ⟨ty, F1, ρ1, r1, Post.bind p1 fun xs F2 H2 ρ2 as e2 l2 r2 q2 p2 => ?_⟩⟩
  unfold M.bind at p2
  cases e3 : M.shrs as ρ2 with
  | bad => rw [e3] at p2; exact p2.elim
  | exc c d ρ' => exact absurd e3 shrs_noexc
  | ok ds ρ3 =>
    rw [e3] at p2
    simp only [R.bind] at p2
    obtain ⟨F3, l3, r3, q3⟩ := shrs_step r2 q2 e3
    exact useU_post hss r3 (q1.mono (l2.trans l3).r na) q3 (Post.le l3 p2)
theorem rps1 {d : D} {xs : List V} (h : Rps K F [d] xs) : ∃ v, xs = [v] ∧ Rp K F d v := by
  obtain ⟨v, r, e, h1, h2⟩ := h.cases1
  simp only [Rps] at h2; subst h2
  exact ⟨v, e, h1⟩
def opAppend : List D → List D → Option (D × List D)
  | l, [d] => if l.length < big then some (.non, l ++ [d]) else none
  | _, _ => none
theorem mu_append : MU X "list.append" opAppend := ⟨_, mt_append, fun F H a xs vs l ds res l' Q h1 q1 q2 e k => by
  unfold opAppend at e
  split at e
  · split at e
    · rename_i z
      cases e
      obtain ⟨v, rfl, r⟩ := rps1 q2
      exact ⟨a, vs, v, rfl, rfl, h1, by rw [← q1.length]; exact Nat.lt_of_lt_of_le z (big_le (Nat.le_refl _)), k _ _ (by simp only [Rp]) (q1.append (Rps.cons r Rps.nil))⟩
    · cases e
  · cases e⟩
noncomputable def opPop : List D → List D → Option (D × List D)
  | l, [] => (l[l.length - 1]?).map fun d => (d, l.dropLast)
  | l, [.int i] => if lim62 i then (ixN l.length i).bind fun k => (l[k]?).map fun d => (d, l.eraseIdx k) else none
  | _, _ => none
theorem mu_pop : MU X "list.pop" opPop := ⟨_, MtR.or mt_pop mt_popAt, fun F H a xs vs l ds res l' Q h1 q1 q2 e k => by
  unfold opPop at e
  split at e
  · obtain ⟨d, e1, e2⟩ := map_some' e
    cases e2
    simp only [Rps] at q2; subst q2
    obtain ⟨v, ev, rv⟩ := Rps.get q1 e1
    exact .inl ⟨a, vs, v, rfl, rfl, h1, by rw [← q1.length]; exact ev, k _ _ rv q1.dropLast⟩
  · split at e
    · rename_i z
      obtain ⟨kk, e0, e⟩ := bind_some e
      obtain ⟨d, e1, e2⟩ := map_some' e
      cases e2
      obtain ⟨w, rfl, r⟩ := rps1 q2
      simp only [Rp] at r; subst r
      obtain ⟨v, ev, rv⟩ := Rps.get q1 e1
      obtain ⟨hs, hlt, _⟩ := ixN_seq e0
      obtain ⟨b1, b2⟩ := lim62_of z
      exact .inr ⟨a, vs, _, kk, v, rfl, rfl, h1, by omega, by omega, by rw [← q1.length]; exact hs, ev, k _ _ rv (q1.eraseIdx kk)⟩
    · cases e
  · cases e⟩
/-- a dict with one more: keys of its own kind -/
def dputO (l : List (D × D)) (y d : D) : Option (List (D × D)) := if l.length < big then (match l with
  | (.non, _) :: _ => if (key1 y).isNone && (keyT y).isSome then some (dput l y d) else none
  | _ => if (key1 y).isSome then some (dput l y d) else none) else none
theorem rd_nofrz {a : Addr} {u : HO} (h : rd H a = some u) (n : NoFrz H a) : H a = some u := by
  unfold rd at h; split at h
  · rename_i o w q; exact absurd q (n o w)
  · exact h
theorem dic_put {a : Addr} {l l' : List (D × D)} {y d : D} {x w : V} (o : Own K F H a (.dic l)) (n : NoFrz H a) (fa : F a = none) (vy : Vw K F H y x) (q : Rp K F d w) (e : dputO l y d = some l') :
    ∃ u, DPut H a x w (upd H a u) ∧ Own K F (upd H a u) a (.dic l') ∧ ∀ ob v, u ≠ .frz ob v := by
  unfold dputO at e
  split at e
  · rename_i z
    rcases o with ⟨kvs, h1, h2⟩ | ⟨kvs, h1, h2⟩
    · have h1' := rd_nofrz h1 n
      have hz : kvs.length < sizeLine := by rw [← rpk_len h2]; exact Nat.lt_of_lt_of_le z (big_le (Nat.le_refl _))
      split at e
      · simp only [RpK] at h2; obtain ⟨q', v, r, _, h3, _⟩ := h2; simp [key1] at h3
      · split at e
        · rename_i hy; cases e
          cases e1 : key1 y with
          | none => rw [e1] at hy; cases hy
          | some k =>
            have ex : x = kV k := by cases y <;> simp only [key1] at e1 <;> cases e1 <;> simpa only [Vw, Rp, kV] using vy
            refine ⟨.dK (putK kvs k w), .inl ⟨kvs, k, h1', ex, hz, rfl⟩, .inl ⟨putK kvs k w, rd_of upd_same (fun _ _ z => by cases z), rpk_put e1 q h2⟩, fun _ _ z => by cases z⟩
        · cases e
    · have h1' := rd_nofrz h1 n
      obtain ⟨r, rfl, h3⟩ := rpm_of h2
      have hz : kvs.length < sizeLine := by rw [← rpt_len h3]; rw [List.length_cons] at z; exact Nat.lt_of_lt_of_le (by omega) (big_le (Nat.le_refl _))
      simp only at e
      split at e
      · rename_i hy; cases e
        obtain ⟨y1, y2⟩ := Bool.and_eq_true_iff.mp hy
        cases e1 : key1 y with
        | some k => rw [e1] at y1; cases y1
        | none =>
        cases e2 : keyT y with
        | none => rw [e2] at y2; cases y2
        | some k =>
          have ex : ∃ b, x = .ref b ∧ H b = some (.tup (k.map kV)) := by
            cases y <;> simp only [keyT] at e2 <;> try cases e2
            obtain ⟨b, vs, rfl, h4, _, q4⟩ := vy
            rw [rv_keys e2 q4] at h4
            exact ⟨b, rfl, h4⟩
          obtain ⟨b, rfl, hb⟩ := ex
          exact ⟨.dT (putK kvs k w), .inr ⟨kvs, k, b, h1', rfl, hb, hz, rfl⟩, .inr ⟨putK kvs k w, rd_of upd_same (fun _ _ z => by cases z), rpm_put e1 e2 q h2⟩, fun _ _ z => by cases z⟩
      · cases e
  · cases e
def rSetD : V → V → V → Hp → (Hp → Prop) → Prop := fun o i v H Q => ∃ a H', o = .ref a ∧ DPut H a i v H' ∧ Q H'
theorem set_any (hu : X.A.units + 64 < cLine) : PSet X fun o i v H Q => rSetL o i v H Q ∨ rSetD o i v H Q := by
  intro pins s σ H o i v ov iv u Q I ro ri rv h
  rcases h with h | ⟨a, H', rfl, g, q⟩
  · exact set_list pins s σ H o i v ov iv u Q I ro ri rv h
  · cases ro
    exact d_setItem (by omega) I g ri rv fun s' I' => ⟨H', I', q⟩
def M.setL (a b : Va) (d : D) : MS := fun ρ => match a with
  | .at j => match ρ[j]? with
    | some (.ow p false (.lst l)) => match b.get ρ with
      | some (.int i) => match ixN l.length i with
        | some k => .nx (ρ.set j (.ow p false (.lst (l.set k d))))
        | none => .bad
      | _ => .bad
    | some (.ow p false (.dic l)) => match b.get ρ with
      | some y => match dputO l y d with
        | some l' => .nx (ρ.set j (.ow p false (.dic l')))
        | none => .bad
      | none => .bad
    | _ => .bad
  | _ => .bad
def MS.setIx (mv mo mi : M Va) : MS := fun ρ => (mv ρ).thn fun v ρ => (M.shr v ρ).thn fun d ρ => (mo.fz ρ).thn fun a ρ => (mi.fz ρ).thn fun b => M.setL a b d
theorem sm_setIx {o i e : Expr} {mo mi mv : M Va} {p' : Pos} (hu : X.A.units + 64 < cLine) (hv : EM X W e mv) (ho : EM X W o mo) (hi : EM X W i mi) (hs : swapsWithSole [.Subscript o i p'] e pos.line X.env = pure false := by rfl) (hw : swappedStores [.Subscript o i p'] e X.env = pure none := by rfl)
    (h1 : (assignEach [.Subscript o i p'] X.env).map (·.2) = [assign (.Subscript o i p') X.env] := by rfl)
    (ha : ∀ v, assign (.Subscript o i p') X.env v = (do
      let ov ← holding [v] (eval o X.env)
      let iv ← holding [v, ov] (eval i X.env)
      standAt p'
      holding [v, ov, iv] (setItem ov iv v)
      release [v, ov, iv] []) := by intro _; rfl) : SM X W (.Assign [.Subscript o i p'] e pos) (MS.setIx mv mo mi) := fun G => ps_weak (ps_asg (hv G) (pg_sub (ho.fz G) (hi.fz G) (set_any hu) ha) hs hw h1) fun En σ H ⟨F, ρ, r, p⟩ =>
  ⟨F, ρ, r, PostS.thn p fun v F1 H1 ρ1 a e l r1 q1 p1 => by
    obtain ⟨F2, d, ρ2, l2, r2, q2, p2⟩ := post_shr r1 q1 p1
    refine ⟨F2, ρ2, r2, PostS.thn p2 fun x F3 H3 ρ3 s e3 l3 r3 q3 p3 => ⟨F3, ρ3, r3, PostS.thn p3 fun y F4 H4 ρ4 t e4 l4 r4 q4 p4 => ?_⟩⟩
    unfold M.setL at p4
    split at p4
    · rename_i j
      split at p4
      · rename_i pp l5 e5
        split at p4
        · rename_i ii e6
          split at p4
          · rename_i kk e7
            have q3 : σ[j]? = some (some x) := q3
            obtain ⟨ov, ev, ad, rfl, n, qq, b0, b1, b2, b3, b4⟩ := r4.val e5
            rw [q3] at ev; cases ev
            obtain ⟨vs, h1, h2⟩ := qq
            rw [vw_int (r4.view q4 e6)]
            refine .inl ⟨ad, vs, ii, kk, rfl, rfl, h1, by rw [← h2.length]; exact e7, p4 σ F4 _ (Le.refl F4) (r4.mut e5 q3 ⟨_, upd_same, Rps.set (Rp.mono (l3.trans l4).r _ _ q2) kk h2⟩ fun ob u z => by cases z)⟩
          · exact p4.elim
        · exact p4.elim
      · rename_i pp l5 e5
        split at p4
        · rename_i yy e6
          split at p4
          · rename_i l' e7
            have q3 : σ[j]? = some (some x) := q3
            obtain ⟨ov, ev, ad, rfl, n, qq, b0, b1, b2, b3, b4⟩ := r4.val e5
            rw [q3] at ev; cases ev
            obtain ⟨u, g, ow, nf⟩ := dic_put qq (b3 rfl) n (r4.view q4 e6) (Rp.mono (l3.trans l4).r _ _ q2) e7
            exact .inr ⟨ad, _, rfl, g, p4 σ F4 _ (Le.refl F4) (r4.mut e5 q3 ow nf)⟩
          · exact p4.elim
        · exact p4.elim
      · exact p4.elim
    · exact p4.elim⟩
def M.dnew (b : Bool) : M Va := fun ρ => .ok (.nw (.dic (if b then [(.non, .non)] else []))) ρ
def tyD : D → Option String
  | .non => some "NoneType"
  | .bl _ => some "bool"
  | .int _ => some "int"
  | .str _ => some "str"
  | .tup _ => some "tuple"
  | .lst _ => some "list"
  | .scr _ => some "list"
  | .dic [] => some "dict"
  | .dic _ => none
  | .x0 _ => none
  | .ttp _ => none
  | .x1 _ _ _ => none
theorem ty_sq {a : Addr} {vs : List V} (h : SqL K H a vs) : TyX K H (.ref a) (.type "list") := by
  rcases h with (h | ⟨o, h⟩) | ⟨o, its, n, h, c, _⟩
  · exact .base (.lst h)
  · exact .base (.frz h)
  · exact .kList h c
theorem ty_dnil (w : Vw K F H (.dic []) v) : TyX K H v (.type "dict") := by
  obtain ⟨a, rfl, ⟨kvs, h, q⟩ | ⟨kvs, h, q⟩⟩ := w
  · unfold rd at h
    split at h
    · rename_i o u e
      cases h
      exact .fDict e
    · exact .base (.dK h)
  · exact absurd q id
theorem tyD_of {d : D} {t : String} (s : Sub F H) (e : tyD d = some t) (w : Vw K F H d v) : TyX K H v (.type t) := by
  cases d <;> first | (cases e; done) | skip
  · cases e; rw [vw_non w]; exact .base .non
  · cases e; rw [vw_bl w]; exact .base (.bl _)
  · cases e; rw [vw_int w]; exact .base (.int _)
  · cases e; rw [vw_str w]; exact .base (.str _)
  · cases e; obtain ⟨a, vs, rfl, h1, f1, q⟩ := vw_tup w; exact .base (.tup h1)
  · cases e; obtain ⟨a, vs, rfl, h1, q⟩ := vw_lst w; exact .base (.lst h1)
  · rename_i l
    cases l with
    | cons x l => cases e
    | nil => cases e; exact ty_dnil w
  · cases e; obtain ⟨a, vs, rfl, h1, q⟩ := vw_scr s w; exact ty_sq h1
/-- isinstance(x, T), T a built-in type -/
def subT (a T : String) : Bool := a == T || (a == "bool" && T == "int")
def opIsi (T : String) : D → Option Va := fun d => (tyD d).map fun a => .sh (.bl (subT a T))
def opIsiT (Ts : List String) : D → Option Va := fun d => (tyD d).map fun a => .sh (.bl (Ts.any (subT a)))
def kitOk (T : String) : Bool := ["NoneType", "bool", "int", "str", "tuple", "list", "dict"].all fun a => kitB a T == some (subT a T)
theorem kit_of' {T a : String} {d : D} (h : kitOk T = true) (e : tyD d = some a) : kitB a T = some (subT a T) := by
  unfold kitOk at h
  simp only [List.all_cons, List.all_nil, Bool.and_eq_true, beq_iff_eq, and_true] at h
  obtain ⟨h1, h2, h3, h4, h5, h6, h7⟩ := h
  cases d with
  | dic l => cases l with
    | nil => cases e; assumption
    | cons x l => cases e
  | x0 c => cases e
  | ttp c => cases e
  | x1 c f d => cases e
  | _ => cases e; assumption
theorem em_isi {e c : Expr} {m : M Va} {T : String} {p : Pos} (hk : kitOk T = true) (he : EM X W e m) (hc : PE X c (tC (.ty T))) (hm : X.mg "isinstance" = none) (hg : Gl X "isinstance" := by rfl)
    (hs1 : starEach [e, c] X.env = (false, eval e X.env) :: starEach [c] X.env := by rfl) (hs2 : starEach [c] X.env = (false, eval c X.env) :: starEach [] X.env := by rfl) (hpl : (backTo pos (starEach [c] X.env)).any (·.1) = false := by rfl) : EM X W (.Call (.Name "isinstance" p) [e, c] [] pos) (M.un (opIsi T) m) := fun G =>
  pe_weak (pe_callB call_isi hg hm (by decide +kernel) (pa_cons (he.fz G) (pa_cons hc pa_nil hs2) hs1) (by decide) (by decide) hs1 hpl) fun σ H Q ⟨F, ρ, r, p⟩ => ⟨F, ρ, r, Post.bind p fun v F1 H1 ρ1 a e l r1 q p1 => by
    obtain ⟨s, e1, k⟩ := ofO_post p1
    obtain ⟨d, g, e2⟩ := bind_some e1
    obtain ⟨t, e3, rfl⟩ := map_some' e2
    exact ⟨v, .ty T, .type t, .type T, _, rfl, .ty T, tyD_of r1.sub e3 (r1.view q g), kit_ty (kit_of' hk e3), k _ F1 H1 (Le.refl F1) r1 rv_bl⟩⟩
/-- isinstance(x, (T1, T2)) -/
theorem em_isi2 {e c c' : Expr} {m : M Va} {T T' : String} {p tp : Pos} {k0} (hk : kitOk T = true) (hk' : kitOk T' = true) (he : EM X W e m) (hc : PE X c (tC (.ty T))) (hc' : PE X c' (tC (.ty T'))) (hm : X.mg "isinstance" = none) (hg : Gl X "isinstance" := by rfl)
    (hs1 : starEach [e, .Tuple [c, c'] k0 tp] X.env = (false, eval e X.env) :: starEach [.Tuple [c, c'] k0 tp] X.env := by rfl) (hs2 : starEach [.Tuple [c, c'] k0 tp] X.env = (false, eval (.Tuple [c, c'] k0 tp) X.env) :: starEach [] X.env := by rfl) (hpl : (backTo pos (starEach [.Tuple [c, c'] k0 tp] X.env)).any (·.1) = false := by rfl)
    (hs3 : starEach [c, c'] X.env = (false, eval c X.env) :: starEach [c'] X.env := by rfl) (hs4 : starEach [c'] X.env = (false, eval c' X.env) :: starEach [] X.env := by rfl) : EM X W (.Call (.Name "isinstance" p) [e, .Tuple [c, c'] k0 tp] [] pos) (M.un (opIsiT [T, T']) m) := fun G =>
  pe_weak (pe_callB call_isiT hg hm (by decide +kernel) (pa_cons (he.fz G) (pa_cons (pe_tup (pa_cons hc (pa_cons hc' pa_nil hs4) hs3)) pa_nil hs2) hs1) (by decide) (by decide) hs1 hpl) fun σ H Q ⟨F, ρ, r, p⟩ => ⟨F, ρ, r, Post.bind p fun v F1 H1 ρ1 a e l r1 q p1 => by
    obtain ⟨s, e1, k⟩ := ofO_post p1
    obtain ⟨d, g, e2⟩ := bind_some e1
    obtain ⟨t, e3, rfl⟩ := map_some' e2
    refine ⟨by show 2 ≤ sizeLine; decide, fun tp' n => ?_⟩
    have r2 : Rep X.K G F1 (upd H1 tp' (.tup [.ty T, .ty T'])) ρ1 σ := r1.new n
    have w : Vw X.K F1 (upd H1 tp' (.tup [.ty T, .ty T'])) d v := r2.view (s := a) (by
      cases a with
      | sh d => exact q
      | «at» i => exact q
      | nw d => cases g) g
    refine ⟨v, tp', [.ty T, .ty T'], .type t, [.type T, .type T'], _, rfl, upd_same, .cons (.ty T) (.cons (.ty T') .nil), tyD_of r2.sub e3 w, ?_, k _ F1 _ (Le.refl F1) r2 rv_bl⟩
    refine kitAny_cons (kit_ty (kit_of' hk e3)) (fun z1 => kitAny_cons (kit_ty (kit_of' hk' e3)) (fun z2 => ?_) fun z2 => ?_) fun z1 => ?_
    · rw [kitAny_nil]; simp only [List.any_cons, List.any_nil, z1, z2]; rfl
    · simp only [List.any_cons, List.any_nil, z1, z2]; rfl
    · simp only [List.any_cons, List.any_nil, z1]; rfl⟩
end
end Z
namespace Z
open PySem PySem.Spec L2
/-- a def of the text computes f, raises nothing -/
def Df (P : Program) (w : World) (K : Frag) (mg : Str → Option Value) (base : Heap) (k : Nat) (x : Str) (ps : List Str) (f : Fn) : Prop :=
  ∃ (fa : Addr) (fd : FuncData), FnOk P w K mg base CX0 k fa fd ps (spM K mg ps.length f) ∧ mg x = some (.ref fa) ∧ PySem.W.keepIn K (.ref fa) = true ∧ Binds K fd ps [] ∧ ∀ ins c d o, f ins ≠ .exc c d o
theorem nox_exc (f : Fn) : ∀ ins c d o, f.nox ins ≠ .exc c d o := fun ins c d o h => by
  unfold Fn.nox at h
  cases e : f ins <;> rw [e] at h <;> cases h
section
variable {X : Cx} {W : WX} {pos : Pos}
theorem em_def {f : Fn} {ms : M (List Va)} {x : Str} {p : Pos} {e : Expr} {es : List Expr} {k j : Nat} {ps : List Str} (D : Df X.prog X.w X.K X.mg X.base j x ps f) (hr : Room k X.A) (hj : j ≤ k) (ha : AM X W (e :: es) ms) (hla : ∀ ρ l ρ', ms ρ = .ok l ρ' → l.length = ps.length)
    (hg : Gl X x := by rfl) (hdb : (x == ("__debug__" : Str)) = false := by decide) (he : starEach (e :: es) X.env = (false, eval e X.env) :: starEach es X.env := by rfl) (hpl : (backTo pos (starEach es X.env)).any (·.1) = false := by rfl) : EM X W (.Call (.Name x p) (e :: es) [] pos) (M.call f ms) := by
  obtain ⟨fa, fd, F, hm, hk, hb, hx⟩ := D
  have ef : f = f.nox := by
    funext ins
    unfold Fn.nox
    cases q : f ins with
    | exc c d o => exact absurd q (hx ins c d o)
    | ok s o => rfl
    | bad => rfl
  rw [ef] at F ⊢
  exact em_call F (hr.mono hj) hm hk hb ha hg hdb he hpl hla
end
theorem fn_mk {P : Program} {w : World} {K : Frag} {mg : Str → Option Value} {base : Heap} {k : Nat} {x qual : Str} {params : Arguments} {body : List Stmt} {scope : Scope} {fa : Addr} {fd : FuncData} {N ps : List Str} {m : MS} (F : FunD K x qual params body scope [] [] fa fd) (S : FnScope N ps scope) (hm : mg x = some (.ref fa))
    (hb : ∀ (kV doc pm : Value) (an : Option Addr) (cdv ct : Value) (us : List Value), us.length = ps.length → bindArgs (PySem.W.fnOf x qual params body scope .none kV doc pm an cdv ct) ⟨us, []⟩ = pure (ps.zip us))
    (hbody : ∀ (cdv : Value) (A : Around) (outer : List Env) (s : Shared) (H : Hp) (E : XK), Room k (A.deeper (PyProof.Rows.envOfC qual scope s.heap.objs.size fa cdv)) → BM (cxOf CX0 P w K mg base N qual scope fa cdv A outer s H E).nox W0 body m) : FnOk P w K mg base CX0 (k + 1) fa fd ps (spM K mg ps.length (Fn.of N.length m).nox) :=
  F.ok S (spM_len rfl) (fun cdv A outer s H vs Q E hr h => by
    obtain ⟨t, ht, q⟩ := body_nox (N := N) (hbody cdv A outer s H E hr) h
    exact ⟨t, PSs.nox ht, q⟩)
theorem df_mk {P : Program} {w : World} {K : Frag} {mg : Str → Option Value} {base : Heap} {k : Nat} {x y qual : Str} {params : Arguments} {body : List Stmt} {scope : Scope} {fa : Addr} {fd : FuncData} {N ps : List Str} {m : MS} (F : FunD K x qual params body scope [] [] fa fd) (S : FnScope N ps scope) (hm : mg y = some (.ref fa))
    (hb : ∀ (kV doc pm : Value) (an : Option Addr) (cdv ct : Value) (us : List Value), us.length = ps.length → bindArgs (PySem.W.fnOf x qual params body scope .none kV doc pm an cdv ct) ⟨us, []⟩ = pure (ps.zip us))
    (hbody : ∀ (cdv : Value) (A : Around) (outer : List Env) (s : Shared) (H : Hp) (E : XK), Room k (A.deeper (PyProof.Rows.envOfC qual scope s.heap.objs.size fa cdv)) → BM (cxOf CX0 P w K mg base N qual scope fa cdv A outer s H E).nox W0 body m) : Df P w K mg base (k + 1) y ps (Fn.of N.length m).nox :=
  ⟨fa, fd, F.ok S (spM_len rfl) (fun cdv A outer s H vs Q E hr h => by
    obtain ⟨t, ht, q⟩ := body_nox (N := N) (hbody cdv A outer s H E hr) h
    exact ⟨t, PSs.nox ht, q⟩), hm, F.kp, FunD.bindsN F hb, nox_exc _⟩
/-- a def that is called too deep -/
def Fn.no : Fn := fun _ => .bad
theorem df_no {P : Program} {w : World} {K : Frag} {mg : Str → Option Value} {base : Heap} {k : Nat} {x qual : Str} {params : Arguments} {body : List Stmt} {scope : Scope} {fa : Addr} {fd : FuncData} {ps : List Str} (F : FunD K x qual params body scope [] [] fa fd) (hm : mg x = some (.ref fa))
    (hb : ∀ (kV doc pm : Value) (an : Option Addr) (cdv ct : Value) (us : List Value), us.length = ps.length → bindArgs (PySem.W.fnOf x qual params body scope .none kV doc pm an cdv ct) ⟨us, []⟩ = pure (ps.zip us)) : Df P w K mg base k x ps Fn.no :=
  ⟨fa, fd, ⟨spM_len rfl, fun A outer s H args us vs Q E hr e0 hb r hsp => hsp.2.elim fun F h => h.elim fun ins h => h.2.elim⟩, hm, F.kp, FunD.bindsN F hb, fun ins c d o h => by cases h⟩
theorem rps_int {K : Frag} {F : Hp} : ∀ ns : List Int, Rps K F (ns.map D.int) (ns.map V.int)
  | [] => Rps.nil
  | n :: ns => Rps.cons (by simp only [Rp]) (rps_int ns)
/-- all but the tables -/
def noTb (H : Hp) : Hp := fun b => match H b with
  | some (.tbl _) => none
  | x => x
theorem noTb_of {H : Hp} {b : Addr} {o : HO} (h : noTb H b = some o) : H b = some o := by
  unfold noTb at h
  split at h
  · cases h
  · exact h
theorem noTb_get {H : Hp} {b : Addr} {o : HO} (h : H b = some o) (n : ∀ q, o ≠ .tbl q) : noTb H b = some o := by
  unfold noTb
  rw [h]
  cases o <;> first | rfl | exact absurd rfl (n _)
theorem law_sp {K : Frag} {mg : Str → Option Value} {f : Fn} {H : Hp} {a : Addr} {ns : List Int} (hT : ∀ p ∈ TTab K, H p.1 = some (.tbl #[])) (hS : SqL K H a (ns.map V.int)) (hf : ∃ o, f [.sh true (.scr (ns.map .int))] = .ok (.sh (.bl true)) o) : spM K mg 1 f [.ref a] H (fun v _ => v = .bl true) fun _ _ _ => False := by
  obtain ⟨o, hf⟩ := hf
  have hS : SqL K (noTb H) a (ns.map V.int) := by
    rcases hS with (h | ⟨o, h⟩) | h
    · exact .inl (.inl (noTb_get h fun _ z => by cases z))
    · exact .inl (.inr ⟨o, noTb_get h fun _ z => by cases z⟩)
    · exact .inr h
  refine ⟨rfl, noTb H, [.sh true (.scr (ns.map .int))], ⟨fun a h => ⟨h, id⟩, fun _ _ h => noTb_of h, rfl, fun i s ov e1 e2 => ?_, fun i j b w1 w2 => ?_, Go.refl, fun p hp => LamX.TabS.nil (hT p hp), fun b o e => ?_⟩, ?_⟩
  · cases i with
    | zero =>
      cases e1; cases e2
      exact ⟨⟨_, rfl, by simp only [Rp]; exact ⟨a, _, rfl, hS, rps_int ns⟩⟩, fun _ => rfl⟩
    | succ i => simp at e1
  · obtain ⟨p, l, d, e1, _⟩ := w1
    cases i with
    | zero => cases e1
    | succ i => simp at e1
  · unfold noTb at e
    split at e
    · cases e
    · rename_i n; cases o <;> first | rfl | exact (n _ e).elim
  · rw [hf]
    intro v σ' F' H' l r rv na
    simpa only [ResV, Rp] using rv
end Z
namespace Z
open PySem PySem.Spec L2
section
variable {α β : Type}
/-- behind an expression; a statement; a def -/
structure R.wp (r : R α) (Q : α → Ev → Prop) : Prop where
  run : match r with
    | .ok a ρ => Q a ρ
    | _ => False
structure RS.wp (r : RS) (N : Ev → Prop) (T : Va → Ev → Prop) (C B : Ev → Prop) : Prop where
  run : match r with
    | .nx ρ => N ρ
    | .ret s ρ => T s ρ
    | .ct ρ => C ρ
    | .bk ρ => B ρ
    | _ => False
structure RF.wp (r : RF) (Q : Va → Ev → Prop) : Prop where
  run : match r with
    | .ok a o => Q a o
    | _ => False
abbrev WE (m : M α) (ρ : Ev) (Q : α → Ev → Prop) : Prop := (m ρ).wp Q
abbrev WS (m : MS) (ρ : Ev) (N : Ev → Prop) (T : Va → Ev → Prop) (C B : Ev → Prop) : Prop := (m ρ).wp N T C B
abbrev WF (f : Fn) (ins : Ev) (Q : Va → Ev → Prop) : Prop := (f ins).wp Q
theorem RF.of_wp {r : RF} {Q : Va → Ev → Prop} (h : r.wp Q) : ∃ a o, r = .ok a o ∧ Q a o := by
  cases r with
  | ok a o => exact ⟨a, o, rfl, h.run⟩
  | exc c d o => exact h.run.elim
  | bad => exact h.run.elim
theorem R.of_wp {r : R α} {Q : α → Ev → Prop} (h : r.wp Q) : ∃ a o, r = .ok a o ∧ Q a o := by
  cases r with
  | ok a o => exact ⟨a, o, rfl, h.run⟩
  | exc c d o => exact h.run.elim
  | bad => exact h.run.elim
theorem R.wp_mono {r : R α} {Q Q' : α → Ev → Prop} (h : r.wp Q) (k : ∀ a ρ, Q a ρ → Q' a ρ) : r.wp Q' := by
  obtain ⟨a, o, rfl, q⟩ := R.of_wp h; exact ⟨k a o q⟩
theorem RF.wp_mono {r : RF} {Q Q' : Va → Ev → Prop} (h : r.wp Q) (k : ∀ a ρ, Q a ρ → Q' a ρ) : r.wp Q' := by
  obtain ⟨a, o, rfl, q⟩ := RF.of_wp h; exact ⟨k a o q⟩
theorem RS.wp_mono {r : RS} {N N' C C' B B' : Ev → Prop} {T T' : Va → Ev → Prop} (h : r.wp N T C B) (n : ∀ ρ, N ρ → N' ρ) (t : ∀ s ρ, T s ρ → T' s ρ) (c : ∀ ρ, C ρ → C' ρ) (b : ∀ ρ, B ρ → B' ρ) : r.wp N' T' C' B' := by
  cases r with
  | nx ρ => exact ⟨n _ h.run⟩
  | ret s ρ => exact ⟨t _ _ h.run⟩
  | ct ρ => exact ⟨c _ h.run⟩
  | bk ρ => exact ⟨b _ h.run⟩
  | exc c d ρ => exact h.run.elim
  | bad => exact h.run.elim
theorem we_bind {m : M α} {k : α → M β} {ρ : Ev} {Q : β → Ev → Prop} (h : WE m ρ fun a ρ' => WE (k a) ρ' Q) : WE (M.bind m k) ρ Q := by
  obtain ⟨a, o, e, q⟩ := R.of_wp h
  show ((m ρ).bind k).wp Q
  rw [e]; exact q
end
section
variable {ρ : Ev} {Q : Va → Ev → Prop} {QB : Bool → Ev → Prop} {QL : List Va → Ev → Prop} {N C B : Ev → Prop} {T : Va → Ev → Prop} {d x y : D} {a b s : Va} {i : Nat} {p l : Bool} {m ma mb : M Va} {ms : M (List Va)} {mc : M Bool} {st su : MS}
theorem fz_sh : Va.fz (.sh d) = .sh d := rfl
theorem fz_nw : Va.fz (.nw d) = .sh d := rfl
theorem fz_at : Va.fz (.at i) = .at i := rfl
theorem we_sh (h : ρ[i]? = some (.sh p d)) (k : Q (.sh d) ρ) : WE (M.var i) ρ Q := by
  unfold WE M.var; rw [h]; exact ⟨k⟩
theorem we_ow (h : ρ[i]? = some (.ow p l d)) (k : Q (.at i) ρ) : WE (M.var i) ρ Q := by
  unfold WE M.var; rw [h]; exact ⟨k⟩
theorem we_cst (k : Q (.sh d) ρ) : WE (M.cst d) ρ Q := ⟨k⟩
theorem we_fz (h : WE m ρ fun a ρ' => Q a.fz ρ') : WE m.fz ρ Q := by
  obtain ⟨a, o, e, q⟩ := R.of_wp h
  show ((m ρ).bind fun a ρ => .ok (Va.fz a) ρ).wp Q
  rw [e]; exact ⟨q⟩
theorem we_bin {o : D → D → Option Va} (h : WE ma ρ fun a ρ1 => WE mb ρ1 fun b ρ2 => WE (M.use2 o a.fz b.fz) ρ2 Q) : WE (M.bin o ma mb) ρ Q := we_bind (we_fz (R.wp_mono h fun a ρ1 h1 => we_bind (we_fz h1)))
theorem we_use2 {o : D → D → Option Va} (h1 : a.get ρ = some x) (h2 : b.get ρ = some y) (h3 : o x y = some s) (k : Q s ρ) : WE (M.use2 o a b) ρ Q := by
  unfold WE M.use2 M.ofO
  simp only [h1, h2, Option.bind_some, h3]
  exact ⟨k⟩
theorem we_un {o : D → Option Va} (h : WE ma ρ fun a ρ1 => WE (M.use1 o a.fz) ρ1 Q) : WE (M.un o ma) ρ Q := we_bind (we_fz h)
theorem we_use1 {o : D → Option Va} (h1 : a.get ρ = some x) (h3 : o x = some s) (k : Q s ρ) : WE (M.use1 o a) ρ Q := by
  unfold WE M.use1 M.ofO
  simp only [h1, Option.bind_some, h3]
  exact ⟨k⟩
theorem we_nil (k : QL [] ρ) : WE M.nil ρ QL := ⟨k⟩
theorem we_cons (h : WE m ρ fun a ρ1 => WE ms ρ1 fun l ρ2 => QL (a.fz :: l) ρ2) : WE (M.cons m ms) ρ QL := we_bind (we_fz (R.wp_mono h fun a ρ1 h1 => we_bind (R.wp_mono h1 fun l ρ2 h2 => ⟨h2⟩)))
theorem we_shr_sh {QD : D → Ev → Prop} (k : QD d ρ) : WE (M.shr (.sh d)) ρ QD := ⟨k⟩
theorem we_shr_nw {QD : D → Ev → Prop} (k : QD d ρ) : WE (M.shr (.nw d)) ρ QD := ⟨k⟩
theorem we_shr_at {QD : D → Ev → Prop} (h : ρ[i]? = some (.ow p false d)) (k : QD d (ρ.set i (.sh p d))) : WE (M.shr (.at i)) ρ QD := by
  unfold WE M.shr; simp only [h]; exact ⟨k⟩
theorem we_shr_ats {QD : D → Ev → Prop} (h : ρ[i]? = some (.sh p d)) (k : QD d ρ) : WE (M.shr (.at i)) ρ QD := by
  unfold WE M.shr; simp only [h]; exact ⟨k⟩
theorem we_shrs_nil {QD : List D → Ev → Prop} (k : QD [] ρ) : WE (M.shrs []) ρ QD := ⟨k⟩
theorem we_shrs_cons {as : List Va} {QD : List D → Ev → Prop} (h : WE (M.shr a) ρ fun d ρ1 => WE (M.shrs as) ρ1 fun ds ρ2 => QD (d :: ds) ρ2) : WE (M.shrs (a :: as)) ρ QD := we_bind (R.wp_mono h fun d ρ1 h1 => we_bind (R.wp_mono h1 fun ds ρ2 h2 => ⟨h2⟩))
theorem we_tup (h : WE ms ρ fun l ρ1 => WE (M.shrs l) ρ1 fun ds ρ2 => ds.length ≤ big ∧ Q (.sh (.tup ds)) ρ2) : WE (M.tupOf ms) ρ Q := we_bind (R.wp_mono h fun l ρ1 h1 => we_bind (R.wp_mono h1 fun ds ρ2 ⟨z, k⟩ => by show R.wp (if _ then _ else _) Q; rw [if_pos z]; exact ⟨k⟩))
theorem we_lst (h : WE ms ρ fun l ρ1 => WE (M.shrs l) ρ1 fun ds ρ2 => ds.length ≤ big ∧ Q (.nw (.lst ds)) ρ2) : WE (M.lstOf ms) ρ Q := we_bind (R.wp_mono h fun l ρ1 h1 => we_bind (R.wp_mono h1 fun ds ρ2 ⟨z, k⟩ => by show R.wp (if _ then _ else _) Q; rw [if_pos z]; exact ⟨k⟩))
theorem we_ofO {α : Type} {f : Ev → Option α} {c : α} {Q : α → Ev → Prop} (h : f ρ = some c) (k : Q c ρ) : WE (M.ofO f) ρ Q := by unfold WE M.ofO; rw [h]; exact ⟨k⟩
theorem we_toB (h : WE m ρ fun a ρ1 => ∃ c, (a.get ρ1).bind asB = some c ∧ QB c ρ1) : WE (M.toB m) ρ QB := we_bind (R.wp_mono h fun a ρ1 ⟨c, e, k⟩ => we_ofO e k)
theorem we_and {c c' : M Bool} (h : WE c ρ fun k ρ1 => (k = true → WE c' ρ1 QB) ∧ (k = false → QB false ρ1)) : WE (M.and c c') ρ QB := we_bind (R.wp_mono h fun k ρ1 ⟨h1, h2⟩ => by
  cases k with
  | true => exact h1 rfl
  | false => exact ⟨h2 rfl⟩)
theorem we_or {c c' : M Bool} (h : WE c ρ fun k ρ1 => (k = true → QB true ρ1) ∧ (k = false → WE c' ρ1 QB)) : WE (M.or c c') ρ QB := we_bind (R.wp_mono h fun k ρ1 ⟨h1, h2⟩ => by
  cases k with
  | true => exact ⟨h1 rfl⟩
  | false => exact h2 rfl)
theorem we_not {c : M Bool} (h : WE c ρ fun k ρ1 => QB (!k) ρ1) : WE (M.not c) ρ QB := we_bind (R.wp_mono h fun k ρ1 h1 => ⟨h1⟩)
theorem we_andV (h : WE (M.toB ma) ρ fun k ρ1 => (k = true → WE mb ρ1 Q) ∧ (k = false → Q (.sh (.bl false)) ρ1)) : WE (M.andV ma mb) ρ Q := we_bind (R.wp_mono h fun k ρ1 ⟨h1, h2⟩ => by
  cases k with
  | true => exact h1 rfl
  | false => exact ⟨h2 rfl⟩)
theorem we_orV (h : WE (M.toB ma) ρ fun k ρ1 => (k = true → Q (.sh (.bl true)) ρ1) ∧ (k = false → WE mb ρ1 Q)) : WE (M.orV ma mb) ρ Q := we_bind (R.wp_mono h fun k ρ1 ⟨h1, h2⟩ => by
  cases k with
  | true => exact ⟨h1 rfl⟩
  | false => exact h2 rfl)
theorem we_notV (h : WE (M.toB ma) ρ fun k ρ1 => Q (.sh (.bl (!k))) ρ1) : WE (M.notV ma) ρ Q := we_bind (R.wp_mono h fun k ρ1 h1 => ⟨h1⟩)
theorem we_ite (h : WE mc ρ fun k ρ1 => (k = true → WE ma ρ1 Q) ∧ (k = false → WE mb ρ1 Q)) : WE (M.ite mc ma mb) ρ Q := we_bind (R.wp_mono h fun k ρ1 ⟨h1, h2⟩ => by
  cases k with
  | true => exact h1 rfl
  | false => exact h2 rfl)
theorem we_no {QO : Option Int → Ev → Prop} (k : QO none ρ) : WE M.no ρ QO := ⟨k⟩
theorem we_toI {QO : Option Int → Ev → Prop} (h : WE m ρ fun a ρ1 => ∃ j, a.get ρ1 = some (.int j) ∧ QO (some j) ρ1) : WE (M.toI m) ρ QO := we_bind (R.wp_mono h fun a ρ1 ⟨j, e, k⟩ => we_ofO (by rw [e]; rfl) k)
theorem we_slice {ml mh : M (Option Int)} (h : WE m ρ fun a ρ1 => WE ml ρ1 fun lo ρ2 => WE mh ρ2 fun hi ρ3 => ∃ x s, a.fz.get ρ3 = some x ∧ opSl x lo hi = some s ∧ Q s ρ3) : WE (M.slice m ml mh) ρ Q :=
  we_bind (we_fz (R.wp_mono h fun a ρ1 h1 => we_bind (R.wp_mono h1 fun lo ρ2 h2 => we_bind (R.wp_mono h2 fun hi ρ3 ⟨x, s, e1, e2, k⟩ => we_ofO (by rw [e1]; exact e2) k))))
theorem we_blt {o : List D → Option Va} (h : WE ms ρ fun as ρ1 => WE (M.useL o as) ρ1 Q) : WE (M.blt o ms) ρ Q := we_bind h
theorem we_useL {o : List D → Option Va} {as : List Va} {ds : List D} (h : getL ρ as = some ds) (h2 : o ds = some s) (k : Q s ρ) : WE (M.useL o as) ρ Q := we_ofO (by rw [h]; exact h2) k
theorem we_kind {t : String} (h : WE m ρ fun a ρ1 => ∃ x, a.fz.get ρ1 = some x ∧ isK t x = true ∧ Q a.fz ρ1) : WE (M.kind t m) ρ Q := we_bind (we_fz (R.wp_mono h fun a ρ1 ⟨x, e, z, k⟩ => by unfold WE; simp only [e, z, if_true]; exact ⟨k⟩))
theorem we_meth0 {t : String} {o : D → List D → Option Va} (h : WE m ρ fun a ρ1 => ∃ x, a.fz.get ρ1 = some x ∧ isK t x = true ∧ WE (M.useM o a.fz []) ρ1 Q) : WE (M.meth0 t o m) ρ Q := we_bind (we_kind h)
theorem we_meth {t : String} {o : D → List D → Option Va} (h : WE m ρ fun a ρ1 => ∃ x, a.fz.get ρ1 = some x ∧ isK t x = true ∧ WE ms ρ1 fun as ρ2 => WE (M.useM o a.fz as) ρ2 Q) : WE (M.meth t o m ms) ρ Q := we_bind (we_kind (R.wp_mono h fun a ρ1 ⟨x, e, z, k⟩ => ⟨x, e, z, we_bind k⟩))
theorem we_useM {o : D → List D → Option Va} {as : List Va} {ds : List D} (h : a.get ρ = some x) (h1 : getL ρ as = some ds) (h2 : o x ds = some s) (k : Q s ρ) : WE (M.useM o a as) ρ Q := we_ofO (by rw [h, Option.bind_some, h1]; exact h2) k
theorem we_mut0 {o : List D → List D → Option (D × List D)} (h : WE m ρ fun a ρ1 => ∃ x, a.fz.get ρ1 = some x ∧ isK "list" x = true ∧ WE (M.useU o a.fz []) ρ1 Q) : WE (M.mut0 o m) ρ Q := we_bind (we_kind h)
theorem we_mut {o : List D → List D → Option (D × List D)} (h : WE m ρ fun a ρ1 => ∃ x, a.fz.get ρ1 = some x ∧ isK "list" x = true ∧ WE ms ρ1 fun as ρ2 => WE (M.shrs as) ρ2 fun ds ρ3 => WE (M.useU o a.fz ds) ρ3 Q) : WE (M.mut o m ms) ρ Q :=
  we_bind (we_kind (R.wp_mono h fun a ρ1 ⟨x, e, z, k⟩ => ⟨x, e, z, we_bind (R.wp_mono k fun as ρ2 h2 => we_bind h2)⟩))
theorem we_useU {o : List D → List D → Option (D × List D)} {ds lx : List D} {r : D × List D} (h : ρ[i]? = some (.ow p false (.lst lx))) (h2 : o lx ds = some r) (k : Q (.sh r.1) (ρ.set i (.ow p false (.lst r.2)))) : WE (M.useU o (.at i) ds) ρ Q := by
  unfold WE M.useU
  simp only [h, h2]
  exact ⟨k⟩
theorem we_call {f : Fn} (h : WE ms ρ fun as ρ1 => nodupAt as = true ∧ ∃ ins, insOf ρ1 as = some ins ∧ WF f ins fun s o => Q s (updS as o 0 ρ1)) : WE (M.call f ms) ρ Q := we_bind (R.wp_mono h fun as ρ1 ⟨nd, ins, e, k⟩ => by
  obtain ⟨s, o, ef, q⟩ := RF.of_wp k
  unfold WE M.app
  rw [if_pos nd]
  simp only [e, ef]
  exact ⟨q⟩)
theorem wf_of {n : Nat} {st : MS} {ins : Ev} (h : WS st (ins ++ List.replicate (n - ins.length) .no) (fun ρ => Q (.sh .non) (ρ.take ins.length)) (fun s ρ => Q s (ρ.take ins.length)) (fun _ => False) fun _ => False) : WF (Fn.of n st).nox ins Q := by
  unfold WS at h
  unfold WF Fn.nox Fn.of
  cases e : st (ins ++ List.replicate (n - ins.length) .no) with
  | nx ρ => rw [e] at h; exact ⟨h.run⟩
  | ret s ρ => rw [e] at h; exact ⟨h.run⟩
  | bk ρ => rw [e] at h; exact h.run.elim
  | ct ρ => rw [e] at h; exact h.run.elim
  | exc c d ρ => rw [e] at h; exact h.run.elim
  | bad => rw [e] at h; exact h.run.elim
theorem we_seq {QL : List D → Ev → Prop} (h : WE m ρ fun a ρ1 => WE (M.shr a) ρ1 fun d ρ2 => ∃ l, seqL d = some l ∧ QL l ρ2) : WE (M.seq m) ρ QL := we_bind (R.wp_mono h fun a ρ1 h1 => we_bind (R.wp_mono h1 fun d ρ2 ⟨l, e, k⟩ => we_ofO e k))
theorem we_args {α : Type} {f : List D → Option α} {Q : α → Ev → Prop} (h : WE ms ρ fun as ρ1 => WE (M.shrs as) ρ1 fun ds ρ2 => ∃ l, f ds = some l ∧ Q l ρ2) : WE (M.args f ms) ρ Q := we_bind (R.wp_mono h fun a ρ1 h1 => we_bind (R.wp_mono h1 fun d ρ2 ⟨l, e, k⟩ => we_ofO e k))
theorem we_lc {vs : List Nat} {τ : Tgt} {mi : M (List D)} (h : WE mi ρ fun l ρ1 => WE (M.lcGo vs τ mc m l []) (wipeE ρ1 vs) fun acc ρ2 => Q (.nw (.lst acc)) ρ2) : WE (M.lc vs τ mi mc m) ρ Q := we_bind (R.wp_mono h fun l ρ1 h1 => by
  obtain ⟨acc, ρ2, e, q⟩ := R.of_wp h1
  unfold WE at *
  simp only [e, R.bind]
  exact ⟨q⟩)
theorem nb_of {α β : Type} {r : R α} {k : α → M β} {Q : β → Ev → Prop} (h : r.wp fun a ρ => WE (k a) ρ Q) : (r.nb k).wp Q := by
  obtain ⟨a, o, rfl, q⟩ := R.of_wp h; exact q
/-- a comprehension by an invariant: over the number of items taken and what is made -/
theorem we_lcGo {vs : List Nat} {τ : Tgt} {QL : List D → Ev → Prop} {l : List D} (Inv : Nat → List D → Ev → Prop) (h0 : Inv 0 [] ρ)
    (hs : ∀ i d acc ρ, l[i]? = some d → Inv i acc ρ → ∃ ρ1, τ.f d ρ = some ρ1 ∧ WE mc ρ1 fun k ρ2 => (k = true → WE m ρ2 fun a ρ3 => WE (M.shr a) ρ3 fun y ρ4 => acc.length < big ∧ Inv (i + 1) (acc ++ [y]) (wipeE ρ4 vs)) ∧ (k = false → Inv (i + 1) acc (wipeE ρ2 vs)))
    (hd : ∀ acc ρ, Inv l.length acc ρ → QL acc ρ) : WE (M.lcGo vs τ mc m l []) ρ QL := by
  have : ∀ (j i : Nat) (acc : List D) (ρ : Ev), i + j = l.length → Inv i acc ρ → WE (M.lcGo vs τ mc m (l.drop i) acc) ρ QL := by
    intro j
    induction j with
    | zero =>
      intro i acc ρ e h
      have : l.drop i = [] := List.drop_eq_nil_of_le (by omega)
      rw [this]
      have e : i = l.length := by omega
      subst e
      exact ⟨hd acc ρ h⟩
    | succ j ih =>
      intro i acc ρ e h
      have hl : i < l.length := by omega
      have eg : l[i]? = some l[i] := List.getElem?_eq_getElem hl
      rw [drop_cons eg]
      obtain ⟨ρ1, e1, w⟩ := hs i _ acc ρ eg h
      unfold WE M.lcGo
      simp only [e1]
      refine nb_of (R.wp_mono w fun k ρ2 ⟨w1, w2⟩ => ?_)
      cases k with
      | false => show R.wp (if _ then _ else _) QL; rw [if_neg Bool.false_ne_true]; exact ih (i + 1) acc _ (by omega) (w2 rfl)
      | true =>
        show R.wp (if _ then _ else _) QL
        rw [if_pos rfl]
        refine nb_of (R.wp_mono (w1 rfl) fun a ρ3 w3 => nb_of (R.wp_mono w3 fun y ρ4 ⟨z, w4⟩ => ?_))
        show R.wp (if _ then _ else _) QL
        rw [if_pos z]
        exact ih (i + 1) _ _ (by omega) w4
  have := this l.length 0 [] ρ (by omega) h0
  simpa using this
theorem ws_pass (k : N ρ) : WS MS.pass ρ N T C B := ⟨k⟩
theorem ws_brk (k : B ρ) : WS MS.brk ρ N T C B := ⟨k⟩
theorem ws_cont (k : C ρ) : WS MS.cont ρ N T C B := ⟨k⟩
theorem ws_seq (h : WS st ρ (fun ρ1 => WS su ρ1 N T C B) T C B) : WS (MS.seq st su) ρ N T C B := by
  unfold WS MS.seq at *
  cases e : st ρ with
  | nx ρ1 => rw [e] at h; exact h.run
  | ret s ρ1 => rw [e] at h; exact ⟨h.run⟩
  | ct ρ1 => rw [e] at h; exact ⟨h.run⟩
  | bk ρ1 => rw [e] at h; exact ⟨h.run⟩
  | exc c d ρ1 => rw [e] at h; exact h.run.elim
  | bad => rw [e] at h; exact h.run.elim
theorem thn_wp {α : Type} {r : R α} {k : α → MS} (h : r.wp fun a ρ1 => WS (k a) ρ1 N T C B) : (r.thn k).wp N T C B := by
  obtain ⟨a, o, rfl, q⟩ := R.of_wp h; exact q
theorem ws_mid (P : Ev → Prop) (h : WS st ρ P T C B) (k : ∀ ρ, P ρ → N ρ) : WS st ρ N T C B := RS.wp_mono h k (fun _ _ h => h) (fun _ h => h) fun _ h => h
theorem ws_expr (h : WE m ρ fun _ ρ1 => N ρ1) : WS (MS.expr m) ρ N T C B := thn_wp (R.wp_mono h fun _ ρ1 h1 => ⟨h1⟩)
theorem ws_ite (h : WE mc ρ fun k ρ1 => (k = true → WS st ρ1 N T C B) ∧ (k = false → WS su ρ1 N T C B)) : WS (MS.ite mc st su) ρ N T C B := thn_wp (R.wp_mono h fun k ρ1 ⟨h1, h2⟩ => by
  cases k with
  | true => exact h1 rfl
  | false => exact h2 rfl)
theorem ws_asg (h : WE m ρ fun a ρ1 => WS (M.sto i a) ρ1 N T C B) : WS (MS.asg i m) ρ N T C B := thn_wp h
theorem ws_sto_sh (k : N (ρ.set i (.sh false d))) : WS (M.sto i (.sh d)) ρ N T C B := ⟨k⟩
theorem ws_sto_nw (k : N (ρ.set i (.ow false false d))) : WS (M.sto i (.nw d)) ρ N T C B := ⟨k⟩
theorem ws_sto_at {j : Nat} (h : WE (M.shr (.at j)) ρ fun d ρ1 => N (ρ1.set i (.sh false d))) : WS (M.sto i (.at j)) ρ N T C B := thn_wp (R.wp_mono h fun _ ρ1 h1 => ⟨h1⟩)
theorem ws_asgT {τ : Tgt} (h : WE m ρ fun a ρ1 => WE (M.shr a) ρ1 fun d ρ2 => ∃ ρ3, τ.f d ρ2 = some ρ3 ∧ N ρ3) : WS (MS.asgT τ m) ρ N T C B := thn_wp (R.wp_mono h fun a ρ1 h1 => thn_wp (R.wp_mono h1 fun d ρ2 ⟨ρ3, e, k⟩ => by unfold WS; simp only [e]; exact ⟨k⟩))
theorem ws_ret (h : WE m ρ fun a ρ1 => WE (M.rv a) ρ1 T) : WS (MS.ret m) ρ N T C B := thn_wp (R.wp_mono h fun a ρ1 h1 => thn_wp (R.wp_mono h1 fun _ ρ1 h2 => ⟨h2⟩))
theorem ws_retN (k : T (.sh .non) ρ) : WS MS.retN ρ N T C B := ⟨k⟩
theorem we_rv_sh (k : Q (.sh d) ρ) : WE (M.rv (.sh d)) ρ Q := ⟨k⟩
theorem we_rv_nw (k : Q (.nw d) ρ) : WE (M.rv (.nw d)) ρ Q := ⟨k⟩
theorem we_rv_ats (h : ρ[i]? = some (.sh p d)) (k : Q (.sh d) ρ) : WE (M.rv (.at i)) ρ Q := by unfold WE M.rv; simp only [h]; exact ⟨k⟩
theorem we_rv_new (h : ρ[i]? = some (.ow false false d)) (k : Q (.nw d) (ρ.set i .no)) : WE (M.rv (.at i)) ρ Q := by unfold WE M.rv; simp only [h]; exact ⟨k⟩
theorem we_rv_par (h : ρ[i]? = some (.ow true false d)) (k : Q (.sh d) (ρ.set i (.sh true d))) : WE (M.rv (.at i)) ρ Q := by unfold WE M.rv; simp only [h]; exact ⟨k⟩
theorem ws_setIx {mv mo mi : M Va} (h : WE mv ρ fun v ρ1 => WE (M.shr v) ρ1 fun d ρ2 => WE mo ρ2 fun a ρ3 => WE mi ρ3 fun b ρ4 => WS (M.setL a.fz b.fz d) ρ4 N T C B) : WS (MS.setIx mv mo mi) ρ N T C B :=
  thn_wp (R.wp_mono h fun v ρ1 h1 => thn_wp (R.wp_mono h1 fun d ρ2 h2 => thn_wp (we_fz (R.wp_mono h2 fun a ρ3 h3 => thn_wp (we_fz h3)))))
theorem ws_setL {lx : List D} {j : Int} {n : Nat} (h : ρ[i]? = some (.ow p false (.lst lx))) (h1 : b.get ρ = some (.int j)) (h2 : ixN lx.length j = some n) (k : N (ρ.set i (.ow p false (.lst (lx.set n d))))) : WS (M.setL (.at i) b d) ρ N T C B := by
  unfold WS M.setL
  simp only [h, h1, h2]
  exact ⟨k⟩
/-- a for by an invariant over the number of items taken -/
theorem ws_for {τ : Tgt} {mi : M (List D)} (h : WE mi ρ fun l ρ1 => WS (MS.loop τ st l) ρ1 N T C B) : WS (MS.for τ mi st) ρ N T C B := thn_wp h
theorem turn_wp {r : RS} {k : MS} (h : r.wp (fun ρ => WS k ρ N T C B) T (fun ρ => WS k ρ N T C B) N) : (r.turn k).wp N T C B := by
  cases r with
  | nx ρ => exact h.run
  | ret s ρ => exact ⟨h.run⟩
  | ct ρ => exact h.run
  | bk ρ => exact ⟨h.run⟩
  | exc c d ρ => exact h.run.elim
  | bad => exact h.run.elim
theorem ws_loop {τ : Tgt} {l : List D} (Inv : Nat → Ev → Prop) (h0 : Inv 0 ρ) (hs : ∀ i d ρ, l[i]? = some d → Inv i ρ → ∃ ρ1, τ.f d ρ = some ρ1 ∧ WS st ρ1 (Inv (i + 1)) T (Inv (i + 1)) N) (hd : ∀ ρ, Inv l.length ρ → N ρ) : WS (MS.loop τ st l) ρ N T C B := by
  have : ∀ (j i : Nat) (ρ : Ev), i + j = l.length → Inv i ρ → WS (MS.loop τ st (l.drop i)) ρ N T C B := by
    intro j
    induction j with
    | zero =>
      intro i ρ e h
      have : l.drop i = [] := List.drop_eq_nil_of_le (by omega)
      rw [this]
      have e : i = l.length := by omega
      subst e
      exact ⟨hd ρ h⟩
    | succ j ih =>
      intro i ρ e h
      have hl : i < l.length := by omega
      have eg : l[i]? = some l[i] := List.getElem?_eq_getElem hl
      rw [drop_cons eg]
      obtain ⟨ρ1, e1, w⟩ := hs i _ ρ eg h
      unfold WS MS.loop
      simp only [e1]
      exact turn_wp (RS.wp_mono w (fun ρ h => ih (i + 1) ρ (by omega) h) (fun _ _ h => h) (fun ρ h => ih (i + 1) ρ (by omega) h) fun _ h => h)
  have := this l.length 0 ρ (by omega) h0
  simpa using this
def newG (g : Option Sl) : Sl → Sl
  | .ow p false d => newSl p g (.ow p false d)
  | s => s
theorem newAt_eq {as : List Va} {o : Ev} {j : Nat} {s : Sl} : newAt as o j s = newG (findAt j as o) s := by
  cases s with
  | no => rfl
  | sh p d => rfl
  | ow p l d => cases l <;> rfl
theorem newG_none {s : Sl} : newG none s = s := by
  cases s with
  | no => rfl
  | sh p d => rfl
  | ow p l d => cases l <;> rfl
theorem newG_no {x : Sl} : newG (some x) .no = .no := rfl
theorem newG_sh {x : Sl} {p : Bool} {d : D} : newG (some x) (.sh p d) = .sh p d := rfl
theorem newG_owt {x : Sl} {p : Bool} {d : D} : newG (some x) (.ow p true d) = .ow p true d := rfl
theorem newG_oo {p q : Bool} {d e : D} : newG (some (.ow true false e)) (.ow p false d) = .ow p false e := rfl
theorem newG_os {p q : Bool} {d e : D} : newG (some (.sh true e)) (.ow p false d) = .sh p e := rfl
theorem newG_on {p q : Bool} {d e : D} : newG (some .no) (.ow p false d) = .no := rfl
end
end Z
namespace Z
open PySem PySem.Spec L2
theorem opAdd_str {a b : List Nat} (h : a.length + b.length ≤ big) : opAdd (.str a) (.str b) = some (.sh (.str (a ++ b))) := by unfold opAdd; exact if_pos h
theorem opAdd_lst {a b : List D} (h : a.length + b.length ≤ big) : opAdd (.lst a) (.lst b) = some (.nw (.lst (a ++ b))) := by unfold opAdd; exact if_pos h
theorem opAdd_tup {a b : List D} (h : a.length + b.length ≤ big) : opAdd (.tup a) (.tup b) = some (.sh (.tup (a ++ b))) := by unfold opAdd; exact if_pos h
theorem opMod_ok {i j : Int} (h : 0 < j) : opMod (.int i) (.int j) = some (.sh (.int (i % j))) := by unfold opMod opInt; exact if_pos (decide_eq_true h)
theorem opFdiv_ok {i j : Int} (h : 0 < j) (h' : j < 1073741824) : opFdiv (.int i) (.int j) = some (.sh (.int (i / j))) := by unfold opFdiv opInt; exact if_pos (decide_eq_true ⟨h, h'⟩)
theorem opMul_r {i j : Int} (h : small64 j = true) : opMul (.int i) (.int j) = some (.sh (.int (i * j))) := by unfold opMul; exact if_pos (by rw [h, Bool.or_true])
theorem opMul_l {i j : Int} (h : small64 i = true) : opMul (.int i) (.int j) = some (.sh (.int (i * j))) := by unfold opMul; exact if_pos (by rw [h, Bool.true_or])
theorem small_ok {i : Int} (h : -18446744073709551616 < i) (h' : i < 18446744073709551616) : small64 i = true := decide_eq_true ⟨h, h'⟩
theorem opEq_ok {x y : D} (h : okD 64 x = true) (h' : okD 64 y = true) : opEq x y = some (.sh (.bl (eqD x y))) := by unfold opEq; exact if_pos (by rw [h, h']; rfl)
theorem opNe_ok {x y : D} (h : okD 64 x = true) (h' : okD 64 y = true) : opNe x y = some (.sh (.bl (!eqD x y))) := by unfold opNe; exact if_pos (by rw [h, h']; rfl)
theorem opIx_lst {l : List D} {i : Int} {d : D} (h : atI l i = some d) : opIx (.lst l) (.int i) = some (.sh d) := by unfold opIx; simp only [h]; rfl
theorem opIx_tup {l : List D} {i : Int} {d : D} (h : atI l i = some d) : opIx (.tup l) (.int i) = some (.sh d) := by unfold opIx; simp only [h]; rfl
theorem opIx_str {s : List Nat} {i : Int} {c : Nat} (z : s.length ≤ big) (h : atI s i = some c) : opIx (.str s) (.int i) = some (.sh (.str [c])) := by unfold opIx; simp only [if_pos z, h]; rfl
theorem opLen_str {s : List Nat} (z : s.length ≤ big) : opLen [.str s] = some (.sh (.int s.length)) := by unfold opLen; exact if_pos z
theorem opList_str {s : List Nat} (z : s.length ≤ big) : opList [.str s] = some (.nw (.lst (s.map fun c => .str [c]))) := by unfold opList; exact if_pos z
theorem opAppend_ok {l : List D} {d : D} (h : l.length < big) : opAppend l [d] = some (.non, l ++ [d]) := by unfold opAppend; exact if_pos h
theorem rngD1_ok {j : Int} (h : -4611686018427387904 ≤ j) (h' : j < 4611686018427387904) : rngD1 [.int j] = some (rngL 0 j) := by unfold rngD1; exact if_pos (lim62_ok h h')
theorem atI_nn {α : Type} {l : List α} {i : Int} {d : α} (h0 : 0 ≤ i) (h : l[i.toNat]? = some d) : atI l i = some d := by
  have hl := (List.getElem?_eq_some_iff.mp h).1
  unfold atI ixN
  rw [if_pos h0, if_pos (by omega)]; exact h
theorem atI_lt {α : Type} {l : List α} {i : Int} (h0 : 0 ≤ i) (h : i < l.length) : ∃ d, atI l i = some d ∧ d ∈ l := by
  have hl : i.toNat < l.length := by omega
  exact ⟨l[i.toNat], atI_nn h0 (List.getElem?_eq_getElem hl), List.getElem_mem hl⟩
theorem ixN_nn {n : Nat} {i : Int} (h0 : 0 ≤ i) (h : i < n) : ixN n i = some i.toNat := by unfold ixN; rw [if_pos h0, if_pos h]
theorem rngL_get {lo hi : Int} {i : Nat} {d : D} (h : (rngL lo hi)[i]? = some d) : d = .int (lo + i) ∧ i < (hi - lo).toNat := by
  unfold rngL at h
  rw [List.getElem?_map] at h
  have hl : i < (hi - lo).toNat := by
    cases e : (List.range (hi - lo).toNat)[i]? with
    | none => rw [e] at h; cases h
    | some x => have := (List.getElem?_eq_some_iff.mp e).1; simpa using this
  rw [List.getElem?_range hl] at h
  cases h
  exact ⟨rfl, hl⟩
theorem rngL_len {lo hi : Int} : (rngL lo hi).length = (hi - lo).toNat := by unfold rngL; simp
/-- lists of one-sign texts -/
abbrev chars (w : List Nat) : List D := w.map fun c => D.str [c]
theorem islow0 : ∀ c, c < 128 → (Unicode.isLower c && !(Unicode.isUpper c || Unicode.isTitle c)) = decide (97 ≤ c ∧ c ≤ 122) := by decide +kernel
theorem islower1 {c : Nat} (h : c < 128) : Txt.islower (S [c]) = decide (97 ≤ c ∧ c ≤ 122) := by
  rw [← islow0 c h]; unfold Txt.islower S; rw [← Array.any_toList, ← Array.any_toList]; simp
theorem up0 : ∀ c, c < 128 → PyProof.Rows.up1 c = if 97 ≤ c ∧ c ≤ 122 then c - 32 else c := by decide +kernel
theorem low0 : ∀ c, c < 128 → PyProof.Rows.lo1 c = if 65 ≤ c ∧ c ≤ 90 then c + 32 else c := by decide +kernel
theorem upper1 {c : Nat} (h : c < 128) : (Txt.upper (S [c])).cps.toList = [if 97 ≤ c ∧ c ≤ 122 then c - 32 else c] := by
  rw [PyProof.Rows.upper_ascii (x := S [c]) (by rw [S_toList]; simpa using h)]
  simp [S, up0 c h]
theorem lower1 {c : Nat} (h : c < 128) : (Txt.lower (S [c])).cps.toList = [if 65 ≤ c ∧ c ≤ 90 then c + 32 else c] := by
  rw [PyProof.Rows.lower_ascii (x := S [c]) (by rw [S_toList]; simpa using h)]
  simp [S, low0 c h]
theorem okD_str {w : List Nat} (h : ∀ c ∈ w, c < 1114112) : okD 64 (.str w) = true := by
  simp only [okD, List.all_eq_true, decide_eq_true_eq]; exact h
theorem anyT_NoneType : ["list", "tuple"].any (subT "NoneType") = false := by decide +kernel
theorem subD_NoneType_bool : subT "NoneType" "bool" = false := by decide +kernel
theorem subD_NoneType_int : subT "NoneType" "int" = false := by decide +kernel
theorem subD_NoneType_str : subT "NoneType" "str" = false := by decide +kernel
theorem subD_NoneType_tuple : subT "NoneType" "tuple" = false := by decide +kernel
theorem subD_NoneType_list : subT "NoneType" "list" = false := by decide +kernel
theorem anyT_bool : ["list", "tuple"].any (subT "bool") = false := by decide +kernel
theorem subD_bool_bool : subT "bool" "bool" = true := by decide +kernel
theorem subD_bool_int : subT "bool" "int" = true := by decide +kernel
theorem subD_bool_str : subT "bool" "str" = false := by decide +kernel
theorem subD_bool_tuple : subT "bool" "tuple" = false := by decide +kernel
theorem subD_bool_list : subT "bool" "list" = false := by decide +kernel
theorem anyT_int : ["list", "tuple"].any (subT "int") = false := by decide +kernel
theorem subD_int_bool : subT "int" "bool" = false := by decide +kernel
theorem subD_int_int : subT "int" "int" = true := by decide +kernel
theorem subD_int_str : subT "int" "str" = false := by decide +kernel
theorem subD_int_tuple : subT "int" "tuple" = false := by decide +kernel
theorem subD_int_list : subT "int" "list" = false := by decide +kernel
theorem anyT_str : ["list", "tuple"].any (subT "str") = false := by decide +kernel
theorem subD_str_bool : subT "str" "bool" = false := by decide +kernel
theorem subD_str_int : subT "str" "int" = false := by decide +kernel
theorem subD_str_str : subT "str" "str" = true := by decide +kernel
theorem subD_str_tuple : subT "str" "tuple" = false := by decide +kernel
theorem subD_str_list : subT "str" "list" = false := by decide +kernel
theorem anyT_tuple : ["list", "tuple"].any (subT "tuple") = true := by decide +kernel
theorem subD_tuple_bool : subT "tuple" "bool" = false := by decide +kernel
theorem subD_tuple_int : subT "tuple" "int" = false := by decide +kernel
theorem subD_tuple_str : subT "tuple" "str" = false := by decide +kernel
theorem subD_tuple_tuple : subT "tuple" "tuple" = true := by decide +kernel
theorem subD_tuple_list : subT "tuple" "list" = false := by decide +kernel
theorem anyT_list : ["list", "tuple"].any (subT "list") = true := by decide +kernel
theorem subD_list_bool : subT "list" "bool" = false := by decide +kernel
theorem subD_list_int : subT "list" "int" = false := by decide +kernel
theorem subD_list_str : subT "list" "str" = false := by decide +kernel
theorem subD_list_tuple : subT "list" "tuple" = false := by decide +kernel
theorem subD_list_list : subT "list" "list" = true := by decide +kernel
theorem findAt_nil {j : Nat} {o : Ev} : findAt j [] o = none := rfl
theorem findAt_at {j i : Nat} {as : List Va} {o : Ev} : findAt j (.at i :: as) o = if i = j then some (o.headD .no) else findAt j as o.tail := rfl
theorem findAt_sh {j : Nat} {d : D} {as : List Va} {o : Ev} : findAt j (.sh d :: as) o = findAt j as o.tail := rfl
theorem findAt_nw {j : Nat} {d : D} {as : List Va} {o : Ev} : findAt j (.nw d :: as) o = findAt j as o.tail := rfl
end Z
namespace Z
def lets : List Nat := [97, 65, 98, 66, 99, 67, 100, 68]
def inv (c : Nat) : Nat := if 97 ≤ c then c - 32 else c + 32
theorem lets_cases {c : Nat} (h : c ∈ lets) : c = 97 ∨ c = 65 ∨ c = 98 ∨ c = 66 ∨ c = 99 ∨ c = 67 ∨ c = 100 ∨ c = 68 := by simpa [lets] using h
theorem inv_mem {c : Nat} (h : c ∈ lets) : inv c ∈ lets := by
  rcases lets_cases h with rfl | rfl | rfl | rfl | rfl | rfl | rfl | rfl <;> decide
theorem inv_inv {c : Nat} (h : c ∈ lets) : inv (inv c) = c := by
  rcases lets_cases h with rfl | rfl | rfl | rfl | rfl | rfl | rfl | rfl <;> decide
theorem inv_ne {c : Nat} (h : c ∈ lets) : inv c ≠ c := by
  rcases lets_cases h with rfl | rfl | rfl | rfl | rfl | rfl | rfl | rfl <;> decide
theorem lets_lt {c : Nat} (h : c ∈ lets) : c < 128 := by
  rcases lets_cases h with rfl | rfl | rfl | rfl | rfl | rfl | rfl | rfl <;> decide
/-- a word's letters -/
def Lw (w : List Nat) : Prop := ∀ c ∈ w, c ∈ lets
theorem Lw.nil : Lw [] := fun c h => by cases h
theorem Lw.app {v w : List Nat} (h : Lw v) (k : Lw w) : Lw (v ++ w) := fun c hc => (List.mem_append.mp hc).elim (h c) (k c)
theorem Lw.one {c : Nat} (h : c ∈ lets) : Lw [c] := fun x hx => by rw [List.mem_singleton.mp hx]; exact h
theorem Lw.left {v w : List Nat} (h : Lw (v ++ w)) : Lw v := fun c hc => h c (List.mem_append_left _ hc)
theorem Lw.right {v w : List Nat} (h : Lw (v ++ w)) : Lw w := fun c hc => h c (List.mem_append_right _ hc)
theorem Lw.take {w : List Nat} (h : Lw w) (n : Nat) : Lw (w.take n) := fun c hc => h c (List.mem_of_mem_take hc)
theorem Lw.drop {w : List Nat} (h : Lw w) (n : Nat) : Lw (w.drop n) := fun c hc => h c (List.mem_of_mem_drop hc)
theorem Lw.ok {w : List Nat} (h : Lw w) : okD 64 (.str w) = true := okD_str fun c hc => Nat.lt_of_lt_of_le (lets_lt (h c hc)) (by decide)
/-- one letter more upon a laid out word -/
def push (s : List Nat) (c : Nat) : List Nat := if s.getLast? = some (inv c) then s.dropLast else s ++ [c]
def lay (w : List Nat) : List Nat := w.foldl push []
/-- no letter beside its contrary -/
def Plain : List Nat → Prop
  | [] => True
  | [_] => True
  | a :: b :: r => a ≠ inv b ∧ Plain (b :: r)
theorem plain_snoc : ∀ {s : List Nat} {c : Nat}, Plain (s ++ [c]) ↔ Plain s ∧ s.getLast? ≠ some (inv c)
  | [], c => by simp [Plain]
  | [a], c => by simp [Plain]
  | a :: b :: r, c => by
    have ih := plain_snoc (s := b :: r) (c := c)
    simp only [List.cons_append, Plain, List.getLast?_cons_cons] at ih ⊢
    rw [ih, and_assoc]
theorem plain_left : ∀ {s t : List Nat}, Plain (s ++ t) → Plain s
  | [], _, _ => trivial
  | [a], _, _ => trivial
  | a :: b :: r, t, h => by
    simp only [List.cons_append, Plain] at h ⊢
    exact ⟨h.1, plain_left (s := b :: r) h.2⟩
theorem plain_push {s : List Nat} {c : Nat} (h : Plain s) : Plain (push s c) := by
  unfold push
  split
  · rename_i e
    obtain ⟨t, rfl⟩ := List.getLast?_eq_some_iff.mp e
    rw [List.dropLast_concat]
    exact (plain_snoc.mp h).1
  · rename_i e; exact plain_snoc.mpr ⟨h, e⟩
theorem plain_fold : ∀ (w : List Nat) {s : List Nat}, Plain s → Plain (w.foldl push s)
  | [], _, h => h
  | c :: w, _, h => plain_fold w (plain_push h)
theorem plain_lay (w : List Nat) : Plain (lay w) := plain_fold w trivial
theorem fold_plain : ∀ (w : List Nat) {s : List Nat}, Plain (s ++ w) → w.foldl push s = s ++ w
  | [], s, _ => by simp
  | c :: w, s, h => by
    have e : s ++ c :: w = (s ++ [c]) ++ w := by simp
    rw [e] at h ⊢
    have h1 : Plain (s ++ [c]) := plain_left h
    have : push s c = s ++ [c] := by unfold push; rw [if_neg (plain_snoc.mp h1).2]
    rw [List.foldl_cons, this]
    exact fold_plain w h
theorem lay_plain {w : List Nat} (h : Plain w) : lay w = w := by
  have := fold_plain w (s := []) (by simpa using h)
  simpa [lay] using this
theorem push_push {s : List Nat} {c : Nat} (hc : c ∈ lets) (h : Plain s) : push (push s c) (inv c) = s := by
  unfold push
  by_cases e : s.getLast? = some (inv c)
  · rw [if_pos e]
    obtain ⟨t, rfl⟩ := List.getLast?_eq_some_iff.mp e
    rw [List.dropLast_concat]
    have := (plain_snoc.mp h).2
    rw [if_neg this]
  · rw [if_neg e]
    have : (s ++ [c]).getLast? = some (inv (inv c)) := by rw [inv_inv hc]; simp
    rw [if_pos this, List.dropLast_concat]
/-- two contraries side by side fall away -/
theorem lay_pair (u v : List Nat) {c : Nat} (hc : c ∈ lets) : lay (u ++ c :: inv c :: v) = lay (u ++ v) := by
  unfold lay
  rw [List.foldl_append, List.foldl_append, List.foldl_cons, List.foldl_cons, push_push hc (plain_fold u (s := []) trivial)]
theorem lay_pair' (u v : List Nat) {c : Nat} (hc : c ∈ lets) : lay (u ++ inv c :: c :: v) = lay (u ++ v) := by
  have := lay_pair u v (inv_mem hc)
  rwa [inv_inv hc] at this
theorem lw_push {s : List Nat} {c : Nat} (h : Lw s) (hc : c ∈ lets) : Lw (push s c) := by
  unfold push
  split
  · exact fun x hx => h x (List.dropLast_subset s hx)
  · exact h.app (Lw.one hc)
theorem lw_fold : ∀ {w : List Nat} {s : List Nat}, Lw s → Lw w → Lw (w.foldl push s)
  | [], _, h, _ => h
  | c :: w, _, h, k => lw_fold (w := w) (lw_push h (k c (by simp))) fun x hx => k x (by simp [hx])
theorem lw_lay {w : List Nat} (h : Lw w) : Lw (lay w) := lw_fold Lw.nil h
theorem push_len (s : List Nat) (c : Nat) : (push s c).length ≤ s.length + 1 := by
  unfold push; split
  · rw [List.length_dropLast]; omega
  · simp
theorem fold_len : ∀ (w s : List Nat), (w.foldl push s).length ≤ s.length + w.length
  | [], s => by simp
  | c :: w, s => by
    have h1 := fold_len w (push s c)
    have h2 := push_len s c
    simp only [List.foldl_cons, List.length_cons]
    omega
theorem lay_len (w : List Nat) : (lay w).length ≤ w.length := by have := fold_len w []; simpa [lay] using this
def Flow (d : D) : Prop := ∃ (cells : List Int) (p x s c : Int), d = .lst [.lst (cells.map .int), .int p, .int x, .int s, .int c] ∧ 0 ≤ p ∧ 0 ≤ x ∧ 0 ≤ s ∧ s < 2147483647
end Z
namespace Z
/-- the letters of n -/
def Ln (n : Int) : List Nat := lets.take (2 * n.toNat)
theorem Ln_lw (n : Int) : Lw (Ln n) := fun c h => List.mem_of_mem_take h
theorem four {n : Int} (h : 1 ≤ n) (h' : n ≤ 4) : n = 1 ∨ n = 2 ∨ n = 3 ∨ n = 4 := by omega
theorem Ln_len {n : Int} (h : 1 ≤ n) (h' : n ≤ 4) : ((Ln n).length : Int) = 2 * n := by
  rcases four h h' with rfl | rfl | rfl | rfl <;> rfl
theorem Ln_inv {n : Int} (h : 1 ≤ n) (h' : n ≤ 4) {c : Nat} (hc : c ∈ Ln n) : inv c ∈ Ln n := by
  rcases four h h' with rfl | rfl | rfl | rfl <;> (revert c hc; decide)
abbrev nums (ks : List Nat) : List D := ks.map fun (j : Nat) => D.int (j : Int)
theorem nums_len (ks : List Nat) : (nums ks).length = ks.length := List.length_map ..
theorem okDs_nums (n : Nat) (ks : List Nat) : okDs n (nums ks) = true := by
  induction ks with
  | nil => rfl
  | cons j ks ih => simp only [nums, List.map_cons, okDs, okD, Bool.true_and]; exact ih
theorem okD_nums (ks : List Nat) : okD 64 (.lst (nums ks)) = true := by simp only [okD]; exact okDs_nums 63 ks
theorem chars_mem {w : List Nat} {d : D} (h : d ∈ chars w) : ∃ c, c ∈ w ∧ d = .str [c] := by
  obtain ⟨c, hc, rfl⟩ := List.mem_map.mp h; exact ⟨c, hc, rfl⟩
theorem chars_len (w : List Nat) : (chars w).length = w.length := List.length_map ..
/-- slices -/
theorem cut_take {α : Type} (w : List α) {k : Int} (h : 0 ≤ k) : cutD w none (some k) = w.take k.toNat := by
  unfold cutD
  have e1 : HT.sIx w.length 0 none = 0 := rfl
  have e2 : HT.sIx w.length w.length (some k) = min k.toNat w.length := by show (if k < 0 then _ else _) = _; rw [if_neg (by omega)]
  rw [e1, e2, List.drop_zero, Nat.sub_zero]
  apply List.ext_getElem?
  intro i
  rw [List.getElem?_take, List.getElem?_take]
  by_cases h1 : i < w.length
  · by_cases h2 : i < k.toNat
    · rw [if_pos (by omega), if_pos h2]
    · rw [if_neg (by omega), if_neg h2]
  · rw [List.getElem?_eq_none (by omega)]; split <;> split <;> rfl
theorem cut_drop {α : Type} (w : List α) {k : Int} (h : 0 ≤ k) : cutD w (some k) none = w.drop k.toNat := by
  unfold cutD
  have e1 : HT.sIx w.length w.length none = w.length := rfl
  have e2 : HT.sIx w.length 0 (some k) = min k.toNat w.length := by show (if k < 0 then _ else _) = _; rw [if_neg (by omega)]
  rw [e1, e2]
  by_cases h2 : k.toNat ≤ w.length
  · rw [Nat.min_eq_left h2, List.take_of_length_le (by rw [List.length_drop]; exact Nat.le_refl _)]
  · rw [Nat.min_eq_right (by omega), Nat.sub_self, List.take_zero, List.drop_eq_nil_of_le (by omega)]
theorem cut_mid {α : Type} (w : List α) {j k : Int} (h : 0 ≤ j) (h' : 0 ≤ k) : cutD w (some j) (some k) = (w.drop j.toNat).take (k.toNat - j.toNat) := by
  unfold cutD
  have e1 : HT.sIx w.length w.length (some k) = min k.toNat w.length := by show (if k < 0 then _ else _) = _; rw [if_neg (by omega)]
  have e2 : HT.sIx w.length 0 (some j) = min j.toNat w.length := by show (if j < 0 then _ else _) = _; rw [if_neg (by omega)]
  rw [e1, e2]
  apply List.ext_getElem?
  intro i
  rw [List.getElem?_take, List.getElem?_take, List.getElem?_drop, List.getElem?_drop]
  by_cases h1 : j.toNat ≤ w.length
  · rw [Nat.min_eq_left h1]
    by_cases h2 : i < k.toNat - j.toNat
    · rw [if_pos h2]
      by_cases h3 : j.toNat + i < w.length
      · rw [if_pos (by omega)]
      · rw [List.getElem?_eq_none (by omega)]; split <;> rfl
    · rw [if_neg h2, if_neg (by omega)]
  · rw [Nat.min_eq_right (by omega : w.length ≤ j.toNat)]
    rw [List.getElem?_eq_none (by omega : w.length ≤ j.toNat + i)]
    rw [List.getElem?_eq_none (by omega : w.length ≤ w.length + i)]
    split <;> split <;> rfl
theorem eqD_str (a b : List Nat) : eqD (.str a) (.str b) = decide (a = b) := by simp only [eqD]
theorem plain_of_pairs : ∀ {w : List Nat}, (∀ k a b, w[k]? = some a → w[k + 1]? = some b → a ≠ inv b) → Plain w
  | [], _ => trivial
  | [_], _ => trivial
  | a :: b :: r, h => ⟨h 0 a b rfl rfl, plain_of_pairs (w := b :: r) fun k x y h1 h2 => h (k + 1) x y (by simpa using h1) (by simpa using h2)⟩
theorem eqD_true_true : eqD (.bl true) (.bl true) = true := rfl
theorem eqD_true_false : eqD (.bl true) (.bl false) = false := rfl
theorem eqD_false_true : eqD (.bl false) (.bl true) = false := rfl
theorem eqD_false_false : eqD (.bl false) (.bl false) = true := rfl
end Z
namespace Z
open PySem PySem.Spec PyProof.Rows L2 RT
def IsRs (h : Heap) (a : Addr) (x : Str) (t : Tok) (i : Int) : Prop := ∃ o, h.get? a = some o ∧ o.cls = .type "reversed" ∧ o.data = .fields #[.str x t, rawInt i]
section
variable {prog : Program} {w : World} {A : Around} {E : Value → Shared → Prop} {s : Shared}
theorem IsRs.ty {a : Addr} {x : Str} {t : Tok} {i : Int} (z : IsRs s.heap a x t i) : s.TypeIs (.ref a) "reversed" := z.elim fun o p => ⟨o, p.1, p.2.1⟩
end
def revL : D → Option (List D)
  | .str s => if s.length ≤ big then some (chars s.reverse) else none
  | .lst l => some l.reverse
  | .tup l => some l.reverse
  | _ => none
def M.rev (m : M Va) : M (List D) := m.bind (M.lift revL)
theorem we_rev {m : M Va} {ρ : Ev} {QL : List D → Ev → Prop} (h : WE m ρ fun a ρ1 => WE (M.shr a) ρ1 fun d ρ2 => ∃ l, revL d = some l ∧ QL l ρ2) : WE (M.rev m) ρ QL := we_bind (R.wp_mono h fun a ρ1 h1 => we_bind (R.wp_mono h1 fun d ρ2 ⟨l, e, k⟩ => we_ofO e k))
end Z
namespace Z
open PySem PySem.Spec L2
theorem okD_chars {w : List Nat} (h : Lw w) : okD 64 (.lst (chars w)) = true := by
  simp only [okD]
  have : ∀ {v : List Nat}, Lw v → okDs 63 (chars v) = true := by
    intro v
    induction v with
    | nil => intro _; rfl
    | cons c v ih =>
      intro h
      have h1 := (Lw.one (h c (List.mem_cons_self ..))).ok
      show (okD 63 (.str [c]) && okDs 63 (chars v)) = true
      rw [ih fun y hy => h y (List.mem_cons_of_mem _ hy)]
      simp only [okD, Bool.and_true] at h1 ⊢
      exact h1
  exact this h
theorem take_snoc {α : Type} {l : List α} {i : Nat} {x : α} (h : l[i]? = some x) : l.take (i + 1) = l.take i ++ [x] := by
  rw [List.take_add_one, h]; rfl
theorem act_push {s t : List Nat} {c : Nat} (hs : Plain s) (ht : Lw t) (hc : c ∈ lets) : (push t c).foldl push s = push (t.foldl push s) c := by
  by_cases e : t.getLast? = some (inv c)
  · have e1 : push t c = t.dropLast := by unfold push; rw [if_pos e]
    have e2 : t = t.dropLast ++ [inv c] := by
      obtain ⟨u, rfl⟩ : ∃ u, t = u ++ [inv c] := List.getLast?_eq_some_iff.mp e
      simp
    rw [e1]
    conv => rhs; rw [e2, List.foldl_append]
    show _ = push (push (t.dropLast.foldl push s) (inv c)) c
    have := push_push (c := inv c) (inv_mem hc) (plain_fold t.dropLast hs)
    rw [inv_inv hc] at this
    exact this.symm
  · have e1 : push t c = t ++ [c] := by unfold push; rw [if_neg e]
    rw [e1, List.foldl_append]; rfl
theorem act_lay : ∀ (n : Nat) {s v : List Nat}, v.length = n → Plain s → Lw v → (lay v).foldl push s = v.foldl push s := by
  intro n
  induction n with
  | zero => intro s v hn hs hv; cases v with
    | nil => rfl
    | cons => cases hn
  | succ n ih =>
    intro s v hn hs hv
    obtain ⟨u, c, rfl⟩ : ∃ u c, v = u ++ [c] := by
      rcases List.eq_nil_or_concat v with e | ⟨u, c, e⟩
      · subst e; cases hn
      · exact ⟨u, c, by simpa using e⟩
    have hu := Lw.left hv
    have hc : c ∈ lets := hv c (by simp)
    have e1 : lay (u ++ [c]) = push (lay u) c := by simp [lay, List.foldl_append]
    rw [e1, act_push hs (lw_lay hu) hc, ih (by simpa using hn) hs hu, List.foldl_append]
    rfl
theorem lay_right (u : List Nat) {v : List Nat} (hv : Lw v) : lay (u ++ lay v) = lay (u ++ v) := by
  unfold lay
  rw [List.foldl_append, List.foldl_append]
  exact act_lay _ rfl (plain_lay u) hv
theorem lay_left (u v : List Nat) : lay (lay u ++ v) = lay (u ++ v) := by
  have e : (lay u).foldl push [] = lay u := lay_plain (plain_lay u)
  show (lay u ++ v).foldl push [] = (u ++ v).foldl push []
  rw [List.foldl_append, List.foldl_append, e]
  rfl
def back (w : List Nat) : List Nat := w.reverse.map inv
theorem back_app (u v : List Nat) : back (u ++ v) = back v ++ back u := by simp [back]
theorem back_cons (c : Nat) (v : List Nat) : back (c :: v) = back v ++ [inv c] := by simp [back]
theorem back_len (w : List Nat) : (back w).length = w.length := by simp [back]
theorem lw_back {w : List Nat} (h : Lw w) : Lw (back w) := fun c hc => by
  obtain ⟨x, hx, rfl⟩ := List.mem_map.mp hc
  exact inv_mem (h x (List.mem_reverse.mp hx))
theorem back_back {w : List Nat} (h : Lw w) : back (back w) = w := by
  induction w with
  | nil => rfl
  | cons c w ih =>
    rw [back_cons, back_app, ih fun y hy => h y (List.mem_cons_of_mem _ hy)]
    simp [back, inv_inv (h c (List.mem_cons_self ..))]
theorem plain_back : ∀ {w : List Nat}, Lw w → Plain w → Plain (back w)
  | [], _, _ => trivial
  | [c], _, _ => trivial
  | c :: d :: r, hw, h => by
    have ih := plain_back (w := d :: r) (fun y hy => hw y (List.mem_cons_of_mem _ hy)) h.2
    rw [back_cons]
    refine plain_snoc.mpr ⟨ih, ?_⟩
    rw [back_cons]
    intro e
    have hc := hw c (List.mem_cons_self ..)
    have hd := hw d (List.mem_cons_of_mem _ (List.mem_cons_self ..))
    simp [inv_inv hc] at e
    exact h.1 e.symm
theorem lay_back_right : ∀ {w : List Nat}, Lw w → lay (w ++ back w) = []
  | [], _ => rfl
  | c :: w, h => by
    have hc := h c (List.mem_cons_self ..)
    have hw : Lw w := fun y hy => h y (List.mem_cons_of_mem _ hy)
    have ih := lay_back_right hw
    have e : c :: w ++ back (c :: w) = [c] ++ ((w ++ back w) ++ [inv c]) := by simp [back_cons]
    have hww : Lw (w ++ back w) := hw.app (lw_back hw)
    rw [e, ← lay_right [c] (hww.app (Lw.one (inv_mem hc))), ← lay_left (w ++ back w) [inv c], ih]
    have : lay ([] ++ [inv c]) = [inv c] := rfl
    rw [this]
    have := lay_pair [] [] hc
    exact this
theorem lay_back_left {w : List Nat} (h : Lw w) : lay (back w ++ w) = [] := by
  have := lay_back_right (lw_back h)
  rw [back_back h] at this
  exact this
theorem lay_back : ∀ (n : Nat) {u : List Nat}, u.length = n → Lw u → lay (back (lay u)) = lay (back u) := by
  intro n
  induction n with
  | zero => intro u hn hu; cases u with
    | nil => rfl
    | cons => cases hn
  | succ n ih =>
    intro v hn hv
    obtain ⟨u, c, rfl⟩ : ∃ u c, v = u ++ [c] := by
      rcases List.eq_nil_or_concat v with e | ⟨u, c, e⟩
      · subst e; cases hn
      · exact ⟨u, c, by simpa using e⟩
    have hu := Lw.left hv
    have hc : c ∈ lets := hv c (by simp)
    have i1 := ih (u := u) (by simpa using hn) hu
    have e1 : lay (u ++ [c]) = push (lay u) c := by simp [lay, List.foldl_append]
    have e2 : lay (back (u ++ [c])) = lay ([inv c] ++ back (lay u)) := by
      rw [back_app, show back [c] = [inv c] from rfl, ← lay_right [inv c] (lw_back hu), ← i1, lay_right [inv c] (lw_back (lw_lay hu))]
    rw [e2, e1]
    by_cases e : (lay u).getLast? = some (inv c)
    · obtain ⟨t, et⟩ := List.getLast?_eq_some_iff.mp e
      have e3 : push (lay u) c = t := by unfold push; rw [if_pos e, et]; simp
      rw [e3, et, back_app]
      have := lay_pair' [] (back t) hc
      rw [show back [inv c] = [c] by simp [back, inv_inv hc]]
      exact this.symm
    · have e3 : push (lay u) c = lay u ++ [c] := by unfold push; rw [if_neg e]
      rw [e3, back_app]; rfl
theorem back_lay {u : List Nat} (hu : Lw u) : back (lay u) = lay (back u) := by
  have h1 := lay_back _ rfl hu
  rw [lay_plain (plain_back (lw_lay hu) (plain_lay u))] at h1
  exact h1
/-- x joined to y -/
def jn (u v : List Nat) : List Nat := lay (u ++ v)
theorem lw_jn {u v : List Nat} (hu : Lw u) (hv : Lw v) : Lw (jn u v) := lw_lay (hu.app hv)
end Z
namespace PySem
open Sem (wp)
theorem z_enum_new {v : Value} {o : Obj} {H : Heap → Prop} (B : Begins v o H) : Meets (Builtin.«enumerate.__new__» ⟨[.type "enumerate", v], []⟩) (fun _ R s => H s.heap ∧ R (.ok (.ret (.ref (s.heap.push o).objs.size))) { s with heap := (s.heap.push o).push { cls := .type "enumerate", data := .fields #[.none, .bool false, .ref s.heap.objs.size, rawInt 0, .none, .none] } }) := .of_wp fun prog w A R s h => by
  obtain ⟨hp, g, d, tk, os⟩ := s; obtain ⟨hz, h⟩ := h; have hsub := sub_enumerate
  have start : ∀ {A' : Around} {E : Value → Shared → Prop} {Q : Value → Shared → Prop}, Q (.ref hp.objs.size) ⟨hp.push o, g, d, tk, os⟩ → wpAny (model prog w) A' (pyIter v) Q E ⟨hp, g, d, tk, os⟩ := fun q => B.iter prog w _ _ ⟨hp, g, d, tk, os⟩ _ hz q
  wp_walk using start
  refine wpAny_stack_any fun st => wpAny_pure ?_
  split
  · rename_i c _ _ _ _ _; cases (c == Value.type "enumerate") <;> (wp_walk using start; exact ⟨_, rfl, h⟩)
  · wp_walk using start; exact ⟨_, rfl, h⟩
theorem z_enum_call {prog : Program} {w : World} {A : Around} {E : Value → Shared → Prop} {s : Shared} {v : Value} {o : Obj} {H : Heap → Prop} {Q : Value → Shared → Prop} (B : Begins v o H) (h1 : H s.heap)
    (h : ∀ h', IsEnum h' (s.heap.objs.size + 1) s.heap.objs.size 0 .none → h'.get? s.heap.objs.size = some o → h'.objs.size = s.heap.objs.size + 2 → (∀ b o, s.heap.get? b = some o → h'.get? b = some o) → Q (.ref (s.heap.objs.size + 1)) { s with heap := h' }) : wpAny (model prog w) A (call (.type "enumerate") [v]) Q E s := by
  have hz : (s.heap.push o).objs.size = s.heap.objs.size + 1 := Heap.size_push ..
  refine callType_new F.called_enumerate (by decide) (F.typeCall_enumerate_1 _) (F.newCall_enumerate_1 _) (fun obj => F.args_object_init_2 obj _) F.entry_enumerate_new (z_enum_new B) ⟨h1, ?_⟩
  show _ ∧ _
  rw [hz]
  have he : IsEnum ((s.heap.push o).push { cls := .type "enumerate", data := .fields #[.none, .bool false, .ref s.heap.objs.size, rawInt 0, .none, .none] }) (s.heap.objs.size + 1) s.heap.objs.size 0 .none := by
    have e := Heap.get?_push_size (s.heap.push o) (o := { cls := .type "enumerate", data := .fields #[.none, .bool false, .ref s.heap.objs.size, rawInt 0, .none, .none] }) rfl
    rw [hz] at e; exact e
  refine ⟨⟨_, he, rfl⟩, h _ he (Heap.get?_push_of_some _ (Heap.get?_push_size _ B.free)) (by rw [Heap.size_push, hz]) fun b ob x => Heap.get?_push_of_some _ (Heap.get?_push_of_some _ x)⟩
end PySem
namespace Z
open PySem PySem.Spec PyProof.Rows L2
/-- number and item, in a new pair each time: get tells the items -/
def ItE (n : Nat) (C : Hp → Prop) (get : Hp → Nat → V → Prop) : It := ⟨fun i H => i < n ∧ C H, fun i H v H' => ∃ T x, v = .ref T ∧ H T = none ∧ H' = upd H T (.tup [.int (i : Nat), x]) ∧ get H i x, fun i H => n ≤ i ∧ C H⟩
theorem turn_enumD {P : Program} {w : World} {K : PySem.W.Frag} {elts : List Expr} {kk : Nat} {tpos : Pos} (e it : Addr) (n : Nat) (C : Hp → Prop) (get : Hp → Nat → V → Prop) (tn : Nat → Heap → Prop)
    (live : ∀ i h, tn i h → ∃ o, h.get? it = some o ∧ ∀ v, o.data ≠ .cell v)
    (le : ∀ i h, tn i h → i ≤ n) (keep : ∀ i h h', tn i h → (∀ o, h.get? it = some o → h'.get? it = some o) → tn i h')
    (src : ∀ (X : Cx), X.prog = P → X.w = w → X.K = K → X.calm = true → ∀ (pins : List (Addr × Obj)) (s : Shared) (σ : St) (H : Hp), Inv X pins σ H s → C H →
      ∃ (fp : List Addr) (Pv : Nat → Value → Prop) (St : Nat → Heap → Prop), Draws P w X.A.in1 it fp n Pv St ∧ e ∉ fp ∧ (∀ i, tn i s.heap → St i s.heap) ∧ (∀ i h, i ≤ n → St i h → tn i h) ∧ ∀ i u, Pv i u → ∃ x, RelV x u ∧ get H i x) :
    Turn P w K (.Tuple elts kk tpos) (ItE n C get) [e, it] e (fun i h => (∃ old, IsEnum h e it ((i : Nat) : Int) old) ∧ tn i h ∧ e ≠ it) where
  mem := List.mem_cons_self ..
  obj := fun i h st b hb => by
    obtain ⟨⟨old, he⟩, hi, _⟩ := st
    rcases List.mem_cons.mp hb with z | z
    · rw [z]; exact ⟨_, he, fun v q => nomatch q⟩
    · rw [List.mem_singleton.mp z]; exact live i h hi
  keep := fun i h h' st k => by
    obtain ⟨⟨old, he⟩, hi, hne⟩ := st
    exact ⟨⟨old, k e (List.mem_cons_self ..) _ he⟩, keep i h h' hi fun o q => k it (List.mem_cons_of_mem _ (List.mem_singleton_self _)) o q, hne⟩
  item := by
    intro X hP hw hK hc i pins s σ H E I hf st hg
    obtain ⟨⟨old, he⟩, hit, hne⟩ := st
    obtain ⟨fp, Pv, St, Dr, hef, h1, h2, h3⟩ := src X hP hw hK hc pins s σ H I hg.2
    subst hP hw hK
    have hel : e < s.heap.objs.size := Heap.lt_size he
    have hil : it < s.heap.objs.size := by obtain ⟨_, q, _⟩ := live i _ hit; exact Heap.lt_size q
    refine wpAny_pyNext_enum_itemC Dr he (h1 i hit) hg.1 hne hef fun u h' tk hu ho hit' hT hsz hk => ?_
    obtain ⟨x, ru, gx⟩ := h3 i u hu
    refine ⟨_, rfl, wpAny_letOwnedTupleGo_enum (s := { s with heap := h', toks := tk + 1 }) ho fun h'' he' sb => ?_⟩
    have hT2 : h''.get? s.heap.objs.size = some { cls := .type "tuple", data := .seq #[.int i tk, u] } := (sb.2 _ (Nat.ne_of_gt hel)).trans hT
    have ok : ObjOk X.prog X.w (upd H s.heap.objs.size (.tup [.int (i : Nat), x])) h'' s.heap.objs.size (.tup [.int (i : Nat), x]) := ⟨by show 2 ≤ sizeLine; decide, [.int i tk, u], .cons ⟨_, rfl⟩ (.cons ru .nil), ⟨_, hT2, rfl, _, rfl⟩⟩
    have I1 : Inv X pins σ (upd H s.heap.objs.size (.tup [.int (i : Nat), x])) { s with heap := h'', toks := tk + 1 } := I.turnedNew (ch := [e, it]) (fun b ob hb q => (sb.2 b (fun z => hb (by simp [z]))).trans (hk b ob (fun z => hb (by simp [z])) (fun z => hb (by simp [z])) q)) hf (Nat.le_refl _) ok
    refine ⟨.ref s.heap.objs.size, _, I1, rfl, ⟨_, x, rfl, I.hok.fresh (Nat.le_refl _), rfl, gx⟩, ⟨⟨u, ?_⟩, keep _ _ _ (h2 _ _ hg.1 hit') fun o q => (sb.2 it (Ne.symm hne)).trans q, hne⟩, fun b hb => ?_⟩
    · rw [show ((i + 1 : Nat) : Int) = (i : Int) + 1 by omega]; exact he'
    · have hb' : b < s.heap.objs.size := by
        rcases List.mem_cons.mp hb with z | z
        · rw [z]; exact hel
        · rw [List.mem_singleton.mp z]; exact hil
      rw [upd_ne (Nat.ne_of_lt hb')]
      exact (hf b hb).1
  done := by
    intro X hP hw hK hc i pins s σ H E I hf st hg
    obtain ⟨⟨old, he⟩, hit, hne⟩ := st
    obtain ⟨fp, Pv, St, Dr, hef, h1, h2, h3⟩ := src X hP hw hK hc pins s σ H I hg.2
    subst hP hw hK
    obtain ⟨f0, f1, f2, f3, f4, f5⟩ := hf it (List.mem_cons_of_mem _ (List.mem_singleton_self _))
    have hn : n ≤ i := hg.1
    have e1 : i = n := Nat.le_antisymm (le i _ hit) hn
    subst e1
    exact wpAny_pyNext_enum_endD Dr he (h1 _ hit) fun h' eb => ⟨rfl, I.turned (t' := s.toks) (fun b o hb q => eb b o hb q) f0 f1 f3 f4 f5⟩
  self := fun A i s Q E st h => by
    obtain ⟨⟨_, he⟩, _⟩ := st
    exact wpAny_pyIter_enum he h
def gtT (K : Frag) (a : Addr) (H : Hp) (i : Nat) (x : V) : Prop := ∀ xs, SqT K H a xs → xs[i]? = some x
def gtL (K : Frag) (a : Addr) (H : Hp) (i : Nat) (x : V) : Prop := ∀ xs, SqL K H a xs → xs[i]? = some x
def gtX (s : Str) (_ : Hp) (i : Nat) (x : V) : Prop := ∃ c, s.cps[i]? = some c ∧ x = .str ⟨#[c]⟩
theorem gtIts {its : List Value} {xs : List V} (rv : Vals xs its) {i : Nat} {u : Value} (h : its.toArray[i]? = some u) : ∃ x, RelV x u ∧ xs[i]? = some x := by
  have h : its[i]? = some u := by simpa using h
  have hi : i < xs.length := by rw [rv.length]; exact (List.getElem?_eq_some_iff.mp h).1
  obtain ⟨v, e, r⟩ := rv.get (List.getElem?_eq_getElem hi)
  rw [h] at e; cases e
  exact ⟨_, r, List.getElem?_eq_getElem hi⟩
def iEn (K : Frag) (te : TE) : TI := fun σ H R => te σ H fun v H1 => (∃ a xs, v = .ref a ∧ SqT K H1 a xs ∧ R (ItE xs.length (fun H => SqT K H a xs) (gtT K a)) H1) ∨ (∃ a xs, v = .ref a ∧ SqL K H1 a xs ∧ R (ItE xs.length (fun H => SqL K H a xs) (gtL K a)) H1) ∨ ∃ x, v = .str x ∧ R (ItE x.cps.size (fun _ => True) (gtX x)) H1
theorem pi_en {X : Cx} {e : Expr} {te : TE} {p pos tpos : Pos} {elts : List Expr} {kk : Nat} (hg : Gl X "enumerate") (hm : X.mg "enumerate" = none) (he : PE X e te) (hs : starEach [e] X.env = (false, eval e X.env) :: starEach [] X.env := by rfl) : PI X (.Tuple elts kk tpos) (.Call (.Name "enumerate" p) [e] [] pos) (iEn X.K te) := by
  refine ⟨fun pins s σ H R I h => ?_⟩
  refine Call_ (ld_blt I hg hm boot_enumerate (PyProof.Rows.callWith_type1 (args_cons (thn (he.run pins s σ H _ I h) fun u s1 ⟨v, H1, I1, r1, q1⟩ => args_nil ?_) hs) hs rfl))
  have fpk : ∀ b ∈ [s1.heap.objs.size + 1, s1.heap.objs.size], FpOk X pins H1 b := fun b hb => by
    have hle : s1.heap.objs.size ≤ b := by
      rcases List.mem_cons.mp hb with z | z
      · rw [z]; exact Nat.le_add_right _ _
      · rw [List.mem_singleton.mp z]; exact Nat.le_refl _
    exact I1.fpOk hle (I1.hok.fresh hle)
  rcases q1 with ⟨a, xs, rfl, hq, q⟩ | ⟨a, xs, rfl, hq, q⟩ | ⟨x, rfl, q⟩
  · cases r1
    obtain ⟨its, rv, p', hz⟩ := I1.tuple hq
    refine z_enum_call (begins_tuple a its.toArray) p' fun h' hE hit hsz hk => wpAny_pyIter_enum hE ?_
    have I2 : Inv X pins σ H1 { s1 with heap := h' } := I1.kept (t' := s1.toks) hk
    refine ⟨s1.heap.objs.size + 1, [s1.heap.objs.size + 1, s1.heap.objs.size], _, _, H1, rfl, I2, turn_enumD (s1.heap.objs.size + 1) s1.heap.objs.size xs.length (fun H => SqT X.K H a xs) (gtT X.K a) (fun i h => i ≤ xs.length ∧ h.IsTupleIter s1.heap.objs.size a i) (fun i h z => ?_) (fun i h z => z.1) (fun i h h' z k => ⟨z.1, z.2.at k⟩) ?_, ⟨⟨.none, hE⟩, ⟨Nat.zero_le _, ⟨_, hit, rfl, rfl⟩⟩, Nat.succ_ne_self _⟩, fpk, q⟩
    · obtain ⟨_, o, e1, e2, e3⟩ := z
      exact ⟨o, e1, fun v z => by rw [e3] at z; cases z⟩
    · intro Y hP hw hK hc pins s σ H J hy
      have al : a < s1.heap.objs.size := Heap.lt_size p'.choose_spec.1
      rw [← hK] at hy
      obtain ⟨its2, rv2, p2, hz2⟩ := J.tuple hy
      have hl := rv2.length
      have e9 : its2.toArray.size = xs.length := by simp [hl]
      have D := Draws.tuple (prog := X.prog) (w := X.w) (A := Y.A.in1) (J.ok.hd hc) s1.heap.objs.size a (Nat.ne_of_lt al) its2.toArray
      rw [e9] at D
      refine ⟨_, _, _, D, ?_, fun i z => ⟨z.2, p2⟩, fun i h hi z => ⟨hi, z.1⟩, fun i u hu => ?_⟩
      · intro z
        rcases List.mem_cons.mp z with z | z
        · exact absurd z (Nat.succ_ne_self _)
        · have := List.mem_singleton.mp z
          exact absurd this (Nat.ne_of_gt (Nat.lt_succ_of_lt al))
      · obtain ⟨x, rx, ex⟩ := gtIts rv2 hu
        refine ⟨x, rx, fun ys hys => ?_⟩
        rw [hK] at hy
        have : ys = xs := by rw [← hK] at hys hy; exact J.tuple_inj hys hy
        rw [this]; exact ex
  · cases r1
    obtain ⟨its, rv, p', hz⟩ := I1.list hq
    refine z_enum_call (begins_list a its.toArray) p'.isList fun h' hE hit hsz hk => wpAny_pyIter_enum hE ?_
    have I2 : Inv X pins σ H1 { s1 with heap := h' } := I1.kept (t' := s1.toks) hk
    refine ⟨s1.heap.objs.size + 1, [s1.heap.objs.size + 1, s1.heap.objs.size], _, _, H1, rfl, I2, turn_enumD (s1.heap.objs.size + 1) s1.heap.objs.size xs.length (fun H => SqL X.K H a xs) (gtL X.K a) (fun i h => i ≤ xs.length ∧ h.IsListIter s1.heap.objs.size a i) (fun i h z => ?_) (fun i h z => z.1) (fun i h h' z k => ⟨z.1, z.2.at k⟩) ?_, ⟨⟨.none, hE⟩, ⟨Nat.zero_le _, ⟨_, hit, rfl, rfl⟩⟩, Nat.succ_ne_self _⟩, fpk, q⟩
    · obtain ⟨_, o, e1, e2, e3⟩ := z
      exact ⟨o, e1, fun v z => by rw [e3] at z; cases z⟩
    · intro Y hP hw hK hc pins s σ H J hy
      have al : a < s1.heap.objs.size := Heap.lt_size p'.isList.choose_spec.1
      rw [← hK] at hy
      obtain ⟨its2, rv2, p2, hz2⟩ := J.list hy
      have hl := rv2.length
      have e9 : its2.toArray.size = xs.length := by simp [hl]
      have D := Draws.list (prog := X.prog) (w := X.w) (A := Y.A.in1) (J.ok.hd hc) s1.heap.objs.size a (Nat.ne_of_lt al) its2.toArray
      rw [e9] at D
      refine ⟨_, _, _, D, ?_, fun i z => ⟨z.2, p2.isList⟩, fun i h hi z => ⟨hi, z.1⟩, fun i u hu => ?_⟩
      · intro z
        rcases List.mem_cons.mp z with z | z
        · exact absurd z (Nat.succ_ne_self _)
        · have := List.mem_singleton.mp z
          exact absurd this (Nat.ne_of_gt (Nat.lt_succ_of_lt al))
      · obtain ⟨x, rx, ex⟩ := gtIts rv2 hu
        refine ⟨x, rx, fun ys hys => ?_⟩
        rw [hK] at hy
        have : ys = xs := by rw [← hK] at hys hy; exact J.list_inj hys hy
        rw [this]; exact ex
  · obtain ⟨t, rfl⟩ := r1
    refine z_enum_call (begins_text x t) trivial fun h' hE hit hsz hk => wpAny_pyIter_enum hE ?_
    have I2 : Inv X pins σ H1 { s1 with heap := h' } := I1.kept (t' := s1.toks) hk
    refine ⟨s1.heap.objs.size + 1, [s1.heap.objs.size + 1, s1.heap.objs.size], _, _, H1, rfl, I2, turn_enumD (s1.heap.objs.size + 1) s1.heap.objs.size x.cps.size (fun _ => True) (gtX x) (fun i h => i ≤ x.cps.size ∧ h.IsStrIter s1.heap.objs.size (strIterType x) x t i) (fun i h z => ?_) (fun i h z => z.1) (fun i h h' z k => ⟨z.1, ?_⟩) ?_, ⟨⟨.none, hE⟩, ⟨Nat.zero_le _, ⟨_, hit, rfl, rfl⟩⟩, Nat.succ_ne_self _⟩, fpk, q⟩
    · obtain ⟨_, o, e1, e2, e3⟩ := z
      exact ⟨o, e1, fun v z => by rw [e3] at z; cases z⟩
    · obtain ⟨_, o, e1, e2⟩ := z
      exact ⟨o, k o e1, e2⟩
    · intro Y hP hw hK hc pins s σ H J hy
      have D := Draws.text (prog := X.prog) (w := X.w) (A := Y.A.in1) (J.ok.hd hc) s1.heap.objs.size x t
      refine ⟨_, _, _, D, ?_, fun i z => z.2, fun i h hi z => ⟨hi, z⟩, fun i u hu => ?_⟩
      · intro z; exact absurd (List.mem_singleton.mp z) (Nat.succ_ne_self _)
      · obtain ⟨c, v, e1, rfl⟩ := hu
        exact ⟨.str ⟨#[c]⟩, ⟨v, rfl⟩, c, e1, rfl⟩
/-- the pairs -/
def enL (l : List D) : List D := (List.range l.length).zipWith (fun (i : Nat) d => .tup [.int (i : Int), d]) l
theorem enL_len (l : List D) : (enL l).length = l.length := by simp [enL]
theorem enL_get {l : List D} {i : Nat} {d : D} (h : (enL l)[i]? = some d) : ∃ e, l[i]? = some e ∧ d = .tup [.int (i : Int), e] := by
  have hi : i < l.length := by have := (List.getElem?_eq_some_iff.mp h).1; rwa [enL_len] at this
  unfold enL at h
  rw [List.getElem?_zipWith, List.getElem?_range hi, List.getElem?_eq_getElem hi] at h
  cases h
  exact ⟨_, List.getElem?_eq_getElem hi, rfl⟩
def M.enum (m : M Va) : M (List D) := m.bind (M.lift fun d => (seqL d).map enL)
section
variable {K : Frag} {X : Cx} {W : WX} {pos : Pos}
theorem wk_enum {F1 : Hp} {l : List D} {n : Nat} {C : Hp → Prop} {get : Hp → Nat → V → Prop} (hn : n = l.length) (hc : ∀ F H, LeR F1 F → Sub F H → C H) (hg : ∀ F H, LeR F1 F → Sub F H → ∀ i d, l[i]? = some d → ∀ x, get H i x → Rp K F d x) : Wk K F1 (enL l) (ItE n C get) := fun F H le s i => by
  have le := le.r
  refine ⟨fun d e => ?_, fun z => ⟨by rw [enL_len] at z; omega, hc F H le s⟩⟩
  obtain ⟨e', h1, rfl⟩ := enL_get e
  have hi : i < l.length := (List.getElem?_eq_some_iff.mp h1).1
  refine ⟨⟨by omega, hc F H le s⟩, fun x H' ⟨T, y, e1, e2, e3, e4⟩ => .inr (.inl ⟨T, _, e2, e3, ?_⟩)⟩
  have q := hg F H le s i e' h1 y e4
  have l2 : Le F (upd F T (.tup [.int (i : Nat), y])) := fun a o z => .inl (by
    have : a ≠ T := fun w => by subst w; rw [s _ _ z] at e2; cases e2
    rw [upd_ne this]; exact z)
  subst e1
  simp only [Rp]
  refine ⟨T, [.int (i : Nat), y], rfl, upd_same, ?_⟩
  simp only [Rps]
  exact ⟨_, _, rfl, by simp only [Rp], _, _, rfl, Rp.mono l2.r _ _ q, rfl⟩
theorem im_enum {e : Expr} {m : M Va} {p tpos : Pos} {elts : List Expr} {kk : Nat} (hm : X.mg "enumerate" = none) (h : EM X W e m) (hg : Gl X "enumerate" := by rfl) (hs : starEach [e] X.env = (false, eval e X.env) :: starEach [] X.env := by rfl) : IM X W (.Tuple elts kk tpos) (.Call (.Name "enumerate" p) [e] [] pos) (M.enum m) := fun G => pi_weak (pi_en hg hm (h G) hs) fun σ H Rr ⟨F, ρ, r, p⟩ =>
  ⟨F, ρ, r, Post.bind p fun v F1 H1 ρ1 a e l r1 q p1 => by
    obtain ⟨F2, d, b, ρ2, l2, r2, q2, e2, k⟩ := lift_post r1 q p1
    obtain ⟨l0, e3, rfl⟩ := map_some' e2
    have fin : ∀ J, Wk X.K F2 (enL l0) J → Rr J H1 := fun J wk => k J F2 H1 (Le.refl F2) r2 wk
    cases d with
    | lst l' =>
      cases e3
      simp only [Rp] at q2
      obtain ⟨x, vs, rfl, h1, q2⟩ := q2
      exact .inr (.inl ⟨x, vs, rfl, .inl (.inl (r2.sub _ _ h1)), fin _ (wk_enum q2.length.symm (fun F H le s => sq_sub s (sq_le le (SqL.of h1))) fun F H le s i d e x g => by
        obtain ⟨w, e4, q4⟩ := Rps.get q2 e
        have := g _ (sq_sub s (sq_le le (SqL.of h1)))
        rw [e4] at this; cases this
        exact Rp.mono le _ _ q4)⟩)
    | scr l' =>
      cases e3
      simp only [Rp] at q2
      obtain ⟨x, vs, rfl, h1, q2⟩ := q2
      exact .inr (.inl ⟨x, vs, rfl, sq_sub r2.sub h1, fin _ (wk_enum q2.length.symm (fun F H le s => sq_sub s (sq_le le h1)) fun F H le s i d e x g => by
        obtain ⟨w, e4, q4⟩ := Rps.get q2 e
        have := g _ (sq_sub s (sq_le le h1))
        rw [e4] at this; cases this
        exact Rp.mono le _ _ q4)⟩)
    | tup l' =>
      cases e3
      simp only [Rp] at q2
      obtain ⟨x, vs, rfl, h1, q2⟩ := q2
      exact .inl ⟨x, vs, rfl, SqT.of (r2.sub _ _ h1), fin _ (wk_enum q2.length.symm (fun F H le s => SqT.of (s _ _ (le.fx _ _ h1 rfl))) fun F H le s i d e x g => by
        obtain ⟨w, e4, q4⟩ := Rps.get q2 e
        have := g _ (SqT.of (s _ _ (le.fx _ _ h1 rfl)))
        rw [e4] at this; cases this
        exact Rp.mono le _ _ q4)⟩
    | str s =>
      cases e3
      simp only [Rp] at q2
      exact .inr (.inr ⟨S s, q2, fin _ (wk_enum (by simp [S]) (fun _ _ _ _ => trivial) fun F H le sb i d e x g => by
        obtain ⟨c, e4, rfl⟩ := g
        have e4 : s[i]? = some c := by simpa [S] using e4
        rw [List.getElem?_map, e4] at e
        cases e
        simp only [Rp, S])⟩)
    | _ => cases e3⟩
end
theorem we_enum {m : M Va} {ρ : Ev} {QL : List D → Ev → Prop} (h : WE m ρ fun a ρ1 => WE (M.shr a) ρ1 fun d ρ2 => ∃ l, seqL d = some l ∧ QL (enL l) ρ2) : WE (M.enum m) ρ QL := we_bind (R.wp_mono h fun a ρ1 h1 => we_bind (R.wp_mono h1 fun d ρ2 ⟨l, e, k⟩ => we_ofO (by show (seqL d).map enL = _; rw [e]; rfl) k))
end Z
namespace Z
open PySem PySem.Spec PyProof.Rows L2
def ev2 {α : Type} : List α → List α
  | [] => []
  | [a] => [a]
  | a :: _ :: r => a :: ev2 r
section
variable {X : Cx} {W : WX} {pos : Pos}
def idx (c : Nat) : Nat := if c < 97 then 2 * (c - 65) + 1 else 2 * (c - 97)
end
end Z
namespace Z
open PySem PySem.Spec L2
def Kd (l : List (D × D)) : Prop := ∀ e ∈ l, ∃ s, e.1 = .str s
theorem sameK_str (s t : List Nat) : sameK (.str s) (.str t) = decide (s = t) := by
  unfold sameK; simp only [key1]
  by_cases h : s = t
  · subst h; simp
  · rw [decide_eq_false h]; exact decide_eq_false fun z => h (S_inj (Sum.inr.inj (Option.some.inj z)).symm)
theorem dget_cons (t s : List Nat) (d : D) (l : List (D × D)) : dget ((.str t, d) :: l) (.str s) = if s = t then some d else dget l (.str s) := by
  unfold dget; simp only [key1]
  by_cases h : s = t
  · subst h; rw [if_pos rfl, List.find?_cons_of_pos (by simp)]; rfl
  · rw [if_neg h, List.find?_cons_of_neg (by simp; intro z; exact h (S_inj z).symm)]
theorem dget_nil (y : D) : dget [] y = none := by
  unfold dget; cases key1 y <;> simp; cases keyT y <;> simp
theorem dput_kd {l : List (D × D)} (h : Kd l) (s : List Nat) (d : D) : Kd (dput l (.str s) d) := by
  unfold dput; split
  · intro e he
    obtain ⟨x, hx, rfl⟩ := List.mem_map.mp he
    split
    · exact h x hx
    · exact h x hx
  · intro e he
    rcases List.mem_append.mp he with he | he
    · exact h e he
    · rw [List.mem_singleton.mp he]; exact ⟨s, rfl⟩
theorem dput_len (l : List (D × D)) (y d : D) : (dput l y d).length ≤ l.length + 1 := by
  unfold dput; split
  · rw [List.length_map]; omega
  · simp
theorem dputO_str {l : List (D × D)} (h : Kd l) (hl : l.length < big) (s : List Nat) (d : D) : dputO l (.str s) d = some (dput l (.str s) d) := by
  unfold dputO; rw [if_pos hl]
  match l, h with
  | [], _ => rfl
  | (k, v) :: r, h =>
    obtain ⟨t, e⟩ := h (k, v) (List.mem_cons_self ..)
    have e : k = .str t := e
    subst e; rfl
theorem dget_map (s : List Nat) (d : D) (u : List Nat) : ∀ {l : List (D × D)}, Kd l → dget (l.map fun e => if sameK (.str s) e.1 = true then (e.1, d) else e) (.str u) = if u = s then (if (l.any fun e => sameK (.str s) e.1) = true then some d else none) else dget l (.str u)
  | [], _ => by simp [dget_nil]
  | (k, v) :: l, h => by
    obtain ⟨t, e⟩ := h (k, v) (List.mem_cons_self ..)
    have e : k = .str t := e
    subst e
    have ih := dget_map s d u (l := l) fun e he => h e (List.mem_cons_of_mem _ he)
    rw [List.map_cons, List.any_cons]
    simp only [sameK_str]
    by_cases z : s = t
    · subst z
      simp only [decide_true, if_true, dget_cons, Bool.true_or]
      by_cases z2 : u = s
      · rw [if_pos z2, if_pos z2]
      · rw [if_neg z2, if_neg z2, if_neg z2, ih, if_neg z2]
    · simp only [decide_eq_false z, Bool.false_eq_true, if_false, dget_cons, Bool.false_or]
      by_cases z2 : u = t
      · subst z2; rw [if_pos rfl, if_pos rfl, if_neg (fun e => z e.symm)]
      · rw [if_neg z2, if_neg z2, ih]
theorem dget_app (s : List Nat) (d : D) (u : List Nat) : ∀ {l : List (D × D)}, Kd l → dget (l ++ [(.str s, d)]) (.str u) = match dget l (.str u) with
    | some x => some x
    | none => if u = s then some d else none
  | [], _ => by rw [List.nil_append, dget_cons, dget_nil]
  | (k, v) :: l, h => by
    obtain ⟨t, e⟩ := h (k, v) (List.mem_cons_self ..)
    have e : k = .str t := e
    subst e
    have ih := dget_app s d u (l := l) fun e he => h e (List.mem_cons_of_mem _ he)
    rw [List.cons_append, dget_cons, dget_cons]
    by_cases z : u = t
    · rw [if_pos z, if_pos z]
    · rw [if_neg z, if_neg z, ih]
theorem dget_none (s : List Nat) : ∀ {l : List (D × D)}, Kd l → (l.any fun e => sameK (.str s) e.1) = false → dget l (.str s) = none
  | [], _, _ => dget_nil _
  | (k, v) :: l, h, z => by
    obtain ⟨t, e⟩ := h (k, v) (List.mem_cons_self ..)
    have e : k = .str t := e
    subst e
    rw [List.any_cons] at z
    obtain ⟨z1, z2⟩ := Bool.or_eq_false_iff.mp z
    rw [sameK_str] at z1
    rw [dget_cons, if_neg (of_decide_eq_false z1)]
    exact dget_none s (fun e he => h e (List.mem_cons_of_mem _ he)) z2
theorem dget_put {l : List (D × D)} (h : Kd l) (s u : List Nat) (d : D) : dget (dput l (.str s) d) (.str u) = if u = s then some d else dget l (.str u) := by
  unfold dput
  split
  · rename_i z
    rw [dget_map s d u h, if_pos z]
  · rename_i z
    have z : (l.any fun e => sameK (.str s) e.1) = false := by simpa using z
    rw [dget_app s d u h]
    by_cases e : u = s
    · subst e; rw [dget_none u h z]
    · rw [if_neg e]; cases dget l (.str u) <;> simp [e]
def sub (T : List (List Nat)) (c : Nat) : List Nat := if c < 97 then back (T.getD (c - 65) []) else T.getD (c - 97) []
def Tl (T : List (List Nat)) : Prop := ∀ w ∈ T, Lw w
theorem lw_getD {T : List (List Nat)} (h : Tl T) (k : Nat) : Lw (T.getD k []) := by
  rw [List.getD_eq_getElem?_getD]
  cases e : T[k]? with
  | none => exact Lw.nil
  | some w => exact h w (List.mem_of_getElem? e)
theorem lw_sub {T : List (List Nat)} (h : Tl T) (c : Nat) : Lw (sub T c) := by
  unfold sub; split
  · exact lw_back (lw_getD h _)
  · exact lw_getD h _
theorem sub_inv {T : List (List Nat)} (h : Tl T) {c : Nat} (hc : c ∈ lets) : sub T (inv c) = back (sub T c) := by
  have e := fun k => back_back (lw_getD h k)
  rcases lets_cases hc with rfl | rfl | rfl | rfl | rfl | rfl | rfl | rfl <;> first | rfl | exact (e _).symm
def F (T : List (List Nat)) (w : List Nat) : List Nat := w.flatMap (sub T)
theorem F_app (T : List (List Nat)) (u v : List Nat) : F T (u ++ v) = F T u ++ F T v := by simp [F]
theorem F_one (T : List (List Nat)) (c : Nat) : F T [c] = sub T c := by simp [F]
theorem lw_F {T : List (List Nat)} (h : Tl T) (w : List Nat) : Lw (F T w) := fun c hc => by
  obtain ⟨x, _, hx⟩ := List.mem_flatMap.mp hc
  exact lw_sub h x c hx
theorem F_back {T : List (List Nat)} (h : Tl T) : ∀ {w : List Nat}, Lw w → F T (back w) = back (F T w)
  | [], _ => rfl
  | c :: w, hw => by
    have ih := F_back h (w := w) fun y hy => hw y (List.mem_cons_of_mem _ hy)
    rw [back_cons, F_app, ih, F_one, sub_inv h (hw c (List.mem_cons_self ..))]
    show back (F T w) ++ back (sub T c) = back (F T ([c] ++ w))
    rw [F_app, F_one, back_app]
theorem act_back : ∀ {w s : List Nat}, Plain s → Lw w → (back w).foldl push (w.foldl push s) = s
  | [], _, _, _ => rfl
  | c :: w, s, hs, hw => by
    have hc := hw c (List.mem_cons_self ..)
    have ih := act_back (w := w) (s := push s c) (plain_push hs) fun y hy => hw y (List.mem_cons_of_mem _ hy)
    rw [back_cons, List.foldl_append]
    have e : (c :: w).foldl push s = w.foldl push (push s c) := rfl
    rw [e, ih]
    exact push_push hc hs
theorem act_F {T : List (List Nat)} (h : Tl T) : ∀ (n : Nat) {s v : List Nat}, v.length = n → Plain s → Lw v → (F T (lay v)).foldl push s = (F T v).foldl push s := by
  intro n
  induction n with
  | zero => intro s v hn hs hv; cases v with
    | nil => rfl
    | cons => cases hn
  | succ n ih =>
    intro s v hn hs hv
    obtain ⟨u, c, rfl⟩ : ∃ u c, v = u ++ [c] := by
      rcases List.eq_nil_or_concat v with e | ⟨u, c, e⟩
      · subst e; cases hn
      · exact ⟨u, c, by simpa using e⟩
    have hu := Lw.left hv
    have hc : c ∈ lets := hv c (by simp)
    have i1 := ih (s := s) (v := u) (by simpa using hn) hs hu
    have e1 : lay (u ++ [c]) = push (lay u) c := by simp [lay, List.foldl_append]
    rw [e1, F_app, List.foldl_append, ← i1, F_one]
    by_cases e : (lay u).getLast? = some (inv c)
    · obtain ⟨t, et⟩ := List.getLast?_eq_some_iff.mp e
      have e3 : push (lay u) c = t := by unfold push; rw [if_pos e, et]; simp
      rw [e3, et, F_app, List.foldl_append, F_one, sub_inv h hc]
      have := act_back (w := back (sub T c)) (s := (F T t).foldl push s) (plain_fold _ hs) (lw_back (lw_sub h c))
      rw [back_back (lw_sub h c)] at this
      exact this.symm
    · have e3 : push (lay u) c = lay u ++ [c] := by unfold push; rw [if_neg e]
      rw [e3, F_app, List.foldl_append, F_one]
def rt (T : List (List Nat)) (w : List Nat) : List Nat := lay (F T w)
theorem lw_rt {T : List (List Nat)} (h : Tl T) (w : List Nat) : Lw (rt T w) := lw_lay (lw_F h w)
theorem rt_lay {T : List (List Nat)} (h : Tl T) {w : List Nat} (hw : Lw w) : rt T (lay w) = rt T w := act_F h _ rfl trivial hw
theorem rt_back {T : List (List Nat)} (h : Tl T) {w : List Nat} (hw : Lw w) : rt T (back w) = back (rt T w) := by
  unfold rt; rw [F_back h hw, back_lay (lw_F h w)]
theorem rt_app {T : List (List Nat)} (h : Tl T) (u v : List Nat) : rt T (u ++ v) = lay (rt T u ++ rt T v) := by
  unfold rt; rw [lay_left, lay_right _ (lw_F h v), F_app]
def lows (n : Int) : List Nat := [97, 98, 99, 100].take n.toNat
def same (n : Int) : List (List Nat) := (lows n).map fun c => [c]
theorem sub_same {n : Int} (h : 1 ≤ n) (h' : n ≤ 4) {c : Nat} (hc : c ∈ Ln n) : sub (same n) c = [c] := by
  rcases four h h' with rfl | rfl | rfl | rfl <;> simp [Ln, lets] at hc <;> rcases hc with rfl | rfl | rfl | rfl | rfl | rfl | rfl | rfl <;> rfl
theorem F_same {n : Int} (h : 1 ≤ n) (h' : n ≤ 4) : ∀ {w : List Nat}, (∀ c ∈ w, c ∈ Ln n) → F (same n) w = w
  | [], _ => rfl
  | c :: w, hw => by
    have ih := F_same h h' (w := w) fun y hy => hw y (List.mem_cons_of_mem _ hy)
    show F (same n) ([c] ++ w) = c :: w
    rw [F_app, F_one, sub_same h h' (hw c (List.mem_cons_self ..)), ih]; rfl
theorem sub_len {T : List (List Nat)} {b : Nat} (h : ∀ w ∈ T, w.length ≤ b) (c : Nat) : (sub T c).length ≤ b := by
  have g : ∀ k, (T.getD k []).length ≤ b := fun k => by
    rw [List.getD_eq_getElem?_getD]
    cases e : T[k]? with
    | none => exact Nat.zero_le _
    | some w => exact h w (List.mem_of_getElem? e)
  unfold sub; split
  · rw [back_len]; exact g _
  · exact g _
theorem F_len {T : List (List Nat)} {b : Nat} (h : ∀ w ∈ T, w.length ≤ b) : ∀ (w : List Nat), (F T w).length ≤ b * w.length
  | [] => Nat.zero_le _
  | c :: w => by
    have ih := F_len h w
    have := sub_len h c
    show (F T ([c] ++ w)).length ≤ _
    rw [F_app, F_one, List.length_append, List.length_cons, Nat.mul_succ]; omega
/-- letter k of n, its index -/
theorem Ln_low {n : Int} (h : 1 ≤ n) (h' : n ≤ 4) {c : Nat} (hc : c ∈ Ln n) : (if c < 97 then c - 65 else c - 97) < n.toNat ∧ ((c < 97 ∧ 65 ≤ c ∧ c ≤ 68) ∨ (97 ≤ c ∧ c ≤ 100)) := by
  rcases four h h' with rfl | rfl | rfl | rfl <;> simp [Ln, lets] at hc <;> rcases hc with rfl | rfl | rfl | rfl | rfl | rfl | rfl | rfl <;> decide
def li (c : Nat) : Nat := if c < 97 then c - 65 else c - 97
theorem sub_li (T : List (List Nat)) (c : Nat) : sub T c = if c < 97 then back (T.getD (li c) []) else T.getD (li c) [] := by
  unfold sub li; split <;> rfl
theorem li_n {n : Int} (h : 1 ≤ n) (h' : n ≤ 4) {c : Nat} (hc : c ∈ Ln n) : li c < n.toNat := (Ln_low h h' hc).1
theorem we_dnew {b : Bool} {ρ : Ev} {Q : Va → Ev → Prop} (k : Q (.nw (.dic (if b then [(.non, .non)] else []))) ρ) : WE (M.dnew b) ρ Q := ⟨k⟩
theorem allT_strs : ∀ (us : List (List Nat)), allT (us.map .str) = some us
  | [] => rfl
  | u :: us => by rw [List.map_cons]; unfold allT; rw [allT_strs us]; rfl
theorem eqD_int (i j : Int) : eqD (.int i) (.int j) = decide (i = j) := by simp only [eqD]
theorem allB_rep : ∀ n : Nat, allB (List.replicate n (.bl true)) = some (List.replicate n true)
  | 0 => rfl
  | n + 1 => by rw [List.replicate_succ, List.replicate_succ]; unfold allB; rw [allB_rep n]; rfl
theorem opAll_rep (n : Nat) : opAll [.lst (List.replicate n (.bl true))] = some (.sh (.bl true)) := by
  unfold opAll
  simp only [allB_rep]
  simp
end Z
namespace Z
open PySem PySem.Spec L2
def thn (T U : List (List Nat)) : List (List Nat) := T.map (rt U)
theorem tl_thn {T U : List (List Nat)} (hU : Tl U) : Tl (thn T U) := fun w hw => by
  obtain ⟨v, _, rfl⟩ := List.mem_map.mp hw
  exact lw_rt hU v
theorem getD_thn {T U : List (List Nat)} {k : Nat} : (thn T U).getD k [] = rt U (T.getD k []) := by
  unfold thn
  rw [List.getD_eq_getElem?_getD, List.getD_eq_getElem?_getD, List.getElem?_map]
  cases T[k]? <;> rfl
theorem sub_thn {T U : List (List Nat)} (hT : Tl T) (hU : Tl U) (c : Nat) : sub (thn T U) c = rt U (sub T c) := by
  unfold sub
  rw [getD_thn, getD_thn]
  split
  · rw [rt_back hU (lw_getD hT _)]
  · rfl
theorem rt_thn {T U : List (List Nat)} (hT : Tl T) (hU : Tl U) : ∀ (w : List Nat), rt (thn T U) w = rt U (rt T w)
  | [] => rfl
  | c :: w => by
    have ih := rt_thn hT hU w
    have e1 : rt (thn T U) ([c] ++ w) = lay (rt (thn T U) [c] ++ rt (thn T U) w) := rt_app (tl_thn hU) _ _
    have e2 : rt T ([c] ++ w) = lay (rt T [c] ++ rt T w) := rt_app hT _ _
    have e3 : rt (thn T U) [c] = rt U (rt T [c]) := by
      unfold rt
      rw [F_one, F_one, sub_thn hT hU]
      have := rt_lay hU (lw_sub hT c)
      unfold rt at this
      rw [this]
      exact lay_plain (plain_lay _)
    show rt (thn T U) ([c] ++ w) = rt U (rt T ([c] ++ w))
    rw [e1, e2, e3, ih, rt_lay hU ((lw_rt hT _).app (lw_rt hT _)), rt_app hU]
theorem thn_assoc {T U V : List (List Nat)} (hU : Tl U) (hV : Tl V) : thn (thn T U) V = thn T (thn U V) := by
  unfold thn
  rw [List.map_map]
  refine List.map_congr_left fun w _ => ?_
  exact (rt_thn hU hV w).symm
theorem rt_len {T : List (List Nat)} {b : Nat} (h : ∀ w ∈ T, w.length ≤ b) (w : List Nat) : (rt T w).length ≤ b * w.length := Nat.le_trans (lay_len _) (F_len h w)
theorem mem_push {s : List Nat} {c x : Nat} (h : x ∈ push s c) : x ∈ s ∨ x = c := by
  unfold push at h
  split at h
  · exact .inl (List.mem_of_mem_take (List.dropLast_eq_take ▸ h))
  · rcases List.mem_append.mp h with h | h
    · exact .inl h
    · exact .inr (List.mem_singleton.mp h)
theorem mem_fold : ∀ {w s : List Nat} {x : Nat}, x ∈ w.foldl push s → x ∈ s ∨ x ∈ w
  | [], _, _, h => .inl h
  | c :: w, s, x, h => by
    rcases mem_fold (w := w) h with h | h
    · rcases mem_push h with h | h
      · exact .inl h
      · exact .inr (h ▸ List.mem_cons_self ..)
    · exact .inr (List.mem_cons_of_mem _ h)
theorem mem_lay {w : List Nat} {x : Nat} (h : x ∈ lay w) : x ∈ w := by
  rcases mem_fold h with h | h
  · cases h
  · exact h
theorem Ln_back {n : Int} (h : 1 ≤ n) (h' : n ≤ 4) {w : List Nat} (hw : ∀ c ∈ w, c ∈ Ln n) : ∀ c ∈ back w, c ∈ Ln n := fun c hc => by
  obtain ⟨x, hx, rfl⟩ := List.mem_map.mp hc
  exact Ln_inv h h' (hw x (List.mem_reverse.mp hx))
theorem Ln_sub {n : Int} (h : 1 ≤ n) (h' : n ≤ 4) {T : List (List Nat)} (hT : ∀ w ∈ T, ∀ c ∈ w, c ∈ Ln n) (c : Nat) : ∀ x ∈ sub T c, x ∈ Ln n := by
  have g : ∀ k, ∀ x ∈ T.getD k [], x ∈ Ln n := fun k x hx => by
    rw [List.getD_eq_getElem?_getD] at hx
    cases e : T[k]? with
    | none => rw [e] at hx; cases hx
    | some w => rw [e] at hx; exact hT w (List.mem_of_getElem? e) x hx
  unfold sub; split
  · exact Ln_back h h' (g _)
  · exact g _
theorem Ln_rt {n : Int} (h : 1 ≤ n) (h' : n ≤ 4) {T : List (List Nat)} (hT : ∀ w ∈ T, ∀ c ∈ w, c ∈ Ln n) (w : List Nat) : ∀ x ∈ rt T w, x ∈ Ln n := fun x hx => by
  obtain ⟨c, _, hc⟩ := List.mem_flatMap.mp (mem_lay hx)
  exact Ln_sub h h' hT c x hc
end Z
namespace Z
open PySem PySem.Spec L2
theorem inD_chars (c : Nat) : ∀ (w : List Nat), inD (.str [c]) (chars w) = decide (c ∈ w)
  | [] => rfl
  | d :: w => by
    have ih := inD_chars c w
    unfold inD at ih ⊢
    show (eqD (.str [d]) (.str [c]) || (chars w).any fun y => eqD y (.str [c])) = _
    rw [ih, eqD_str]
    by_cases h : d = c
    · subst h; simp
    · have h2 : ¬ c = d := fun e => h e.symm
      simp [h, h2]
theorem flat_chars (w : List Nat) : (chars w).all flatD = true := by
  rw [List.all_eq_true]
  intro x hx
  obtain ⟨c, _, rfl⟩ := chars_mem hx
  rfl
theorem opIn_tchars (c : Nat) (w : List Nat) : opIn (.str [c]) (.tup (chars w)) = some (.sh (.bl (decide (c ∈ w)))) := by
  unfold opIn inT
  simp only [flat_chars, flatD, Bool.and_self, if_true, inD_chars, Option.map_some]
def chgL (b : Nat) (sd : List Nat) (o : Nat) : List Nat := if o = b ∨ o = inv b then [o] else (if inv o ∈ sd then [inv b] else []) ++ ([o] ++ (if o ∈ sd then [b] else []))
def chg (n : Int) (b : Nat) (sd : List Nat) : List (List Nat) := (lows n).map (chgL b sd)
theorem lw_lows (n : Int) : Lw (lows n) := fun c hc => by
  have := List.mem_of_mem_take hc
  simp only [List.mem_cons, List.not_mem_nil, or_false] at this
  rcases this with rfl | rfl | rfl | rfl <;> decide
theorem lows_Ln {n : Int} (h : 1 ≤ n) (h' : n ≤ 4) {c : Nat} (hc : c ∈ lows n) : c ∈ Ln n := by
  rcases four h h' with rfl | rfl | rfl | rfl <;> simp [lows] at hc <;> rcases hc with rfl | rfl | rfl | rfl <;> decide
theorem chgL_Ln {n : Int} (h : 1 ≤ n) (h' : n ≤ 4) {b : Nat} (hb : b ∈ Ln n) (sd : List Nat) {o : Nat} (ho : o ∈ lows n) : ∀ c ∈ chgL b sd o, c ∈ Ln n := fun c hc => by
  unfold chgL at hc
  split at hc
  · rw [List.mem_singleton.mp hc]; exact lows_Ln h h' ho
  · rcases List.mem_append.mp hc with hc | hc
    · split at hc
      · rw [List.mem_singleton.mp hc]; exact Ln_inv h h' hb
      · cases hc
    · rcases List.mem_append.mp hc with hc | hc
      · rw [List.mem_singleton.mp hc]; exact lows_Ln h h' ho
      · split at hc
        · rw [List.mem_singleton.mp hc]; exact hb
        · cases hc
end Z
namespace Z
open PySem PySem.Spec L2
/-- a < b, as data -/
def ltD (a b : D) : Bool := PySem.W.dataLt (toP a) (toP b)
def ordOk (l : List D) : Bool := okDs 8 l && l.all fun x => !isNon x && l.all fun y => PySem.W.alike (toP x) (toP y)
/-- the first of the least -/
def least {α : Type} (lt : α → α → Bool) : List α → Option α
  | [] => none
  | x :: xs => some (xs.foldl (fun a y => if lt y a = true then y else a) x)
theorem toPs_map : ∀ l : List D, toPs l = l.map toP
  | [] => rfl
  | d :: l => by simp only [toPs, List.map_cons, toPs_map l]
theorem toP_non {d : D} (h : isNon d = false) : toP d ≠ .none := by cases d <;> first | (cases h; done) | (simp only [toP]; intro z; cases z)
theorem ordOk_alike {l : List D} (h : ordOk l = true) : PySem.W.AlikeAll (toPs l) := by
  unfold ordOk at h
  simp only [Bool.and_eq_true, List.all_eq_true, Bool.not_eq_true'] at h
  rw [toPs_map]
  refine ⟨fun x hx y hy => ?_, fun x hx => ?_⟩
  · obtain ⟨a, ha, rfl⟩ := List.mem_map.mp hx
    obtain ⟨b, hb, rfl⟩ := List.mem_map.mp hy
    exact (h.2 a ha).2 b hb
  · obtain ⟨a, ha, rfl⟩ := List.mem_map.mp hx
    exact toP_non (h.2 a ha).1
theorem okDs_mono : ∀ (n m : Nat) (l : List D), n ≤ m → okDs n l = true → okDs m l = true := by
  have key : ∀ (m : Nat), (∀ (d : D) (n : Nat), n ≤ m → okD n d = true → okD m d = true) ∧ ∀ (l : List D) (n : Nat), n ≤ m → okDs n l = true → okDs m l = true := by
    intro m
    induction m with
    | zero =>
      have h1 : ∀ (d : D) (n : Nat), n ≤ 0 → okD n d = true → okD 0 d = true := fun d n hn h => by
        have : n = 0 := by omega
        subst this; exact h
      exact ⟨h1, fun l n hn h => by
        have : n = 0 := by omega
        subst this; exact h⟩
    | succ m ih =>
      have h1 : ∀ (d : D) (n : Nat), n ≤ m + 1 → okD n d = true → okD (m + 1) d = true := fun d n hn h => by
        cases d with
        | tup l => cases n with
          | zero => simp [okD] at h
          | succ n => simp only [okD] at h ⊢; exact ih.2 l n (by omega) h
        | lst l => cases n with
          | zero => simp [okD] at h
          | succ n => simp only [okD] at h ⊢; exact ih.2 l n (by omega) h
        | scr l => cases n with
          | zero => simp [okD] at h
          | succ n => simp only [okD] at h ⊢; exact ih.2 l n (by omega) h
        | dic l => simp [okD] at h
        | x0 c => simp [okD] at h
        | ttp c => simp [okD] at h
        | x1 c f e => simp [okD] at h
        | str s => simpa only [okD] using h
        | _ => simp [okD]
      refine ⟨h1, fun l => ?_⟩
      induction l with
      | nil => intro n _ _; simp [okDs]
      | cons d l ihl =>
        intro n hn h
        simp only [okDs, Bool.and_eq_true] at h ⊢
        exact ⟨h1 d n hn h.1, ihl n hn h.2⟩
  exact fun n m l h => (key m).2 l n h
end Z
namespace Z
open PySem PySem.Spec L2
/-- K' without marks -/
structure Kw (K K' : Frag) : Prop where
  tt : TTab K' = []
  kin : ∀ h : Heap, K.In h → K'.In h
theorem Kw.self {K : Frag} (h : TTab K = []) : Kw K K := ⟨h, fun _ x => x⟩
end Z
namespace Z
open PySem PySem.Spec L2
theorem ordOk_at {ks : List D} (h : ordOk ks = true) {i j : Nat} {a b : D} (ea : ks[i]? = some a) (eb : ks[j]? = some b) : PySem.W.alike (toP a) (toP b) = true ∧ toP a ≠ .none ∧ (toP a).depth ≤ 8 := by
  have hA := ordOk_alike h
  unfold ordOk at h
  simp only [Bool.and_eq_true] at h
  have hm : toP a ∈ toPs ks := by rw [toPs_map]; exact List.mem_map.mpr ⟨a, List.mem_of_getElem? ea, rfl⟩
  have hm2 : toP b ∈ toPs ks := by rw [toPs_map]; exact List.mem_map.mpr ⟨b, List.mem_of_getElem? eb, rfl⟩
  refine ⟨hA.1 _ hm _ hm2, hA.2 _ hm, ?_⟩
  have h1 := h.1
  clear hA h hm hm2 eb
  induction ks generalizing i with
  | nil => simp at ea
  | cons x l ih =>
    simp only [okDs, Bool.and_eq_true] at h1
    cases i with
    | zero => simp at ea; subst ea; exact (okD_lay 8 _ h1.1).2
    | succ i => exact ih (by simpa using ea) h1.2
end Z
namespace Z
open PySem PySem.Spec
theorem least_ok {α : Type} {lt : α → α → Bool} : ∀ {l : List α} {m : α}, (∀ x ∈ l, ∀ y ∈ l, ∀ z ∈ l, lt x y = true → lt y z = true → lt x z = true) → (∀ x ∈ l, lt x x = false) → least lt l = some m → m ∈ l ∧ ∀ y ∈ l, lt y m = false
  | [], m, _, _, h => by cases h
  | x :: xs, m, tr, ir, h => by
    unfold least at h
    have h := Option.some.inj h
    have key : ∀ (ys : List α) (a : α) (seen : List α), (∀ y ∈ ys, y ∈ x :: xs) → (∀ y ∈ seen, y ∈ x :: xs) → a ∈ seen → (∀ y ∈ seen, lt y a = false) → ys.foldl (fun a y => if lt y a = true then y else a) a ∈ seen ++ ys ∧ ∀ y ∈ seen ++ ys, lt y (ys.foldl (fun a y => if lt y a = true then y else a) a) = false := by
      intro ys
      induction ys with
      | nil => intro a seen _ _ ha hs; simpa using ⟨ha, hs⟩
      | cons y ys ih =>
        intro a seen hy hse ha hs
        rw [List.foldl_cons]
        have hyx : y ∈ x :: xs := hy y (by simp)
        have hax : a ∈ x :: xs := hse a ha
        have e : seen ++ y :: ys = (seen ++ [y]) ++ ys := by simp
        rw [e]
        refine ih _ (seen ++ [y]) (fun z hz => hy z (by simp [hz])) (fun z hz => ?_) ?_ fun z hz => ?_
        · rcases List.mem_append.mp hz with hz | hz
          · exact hse z hz
          · rw [List.mem_singleton.mp hz]; exact hyx
        · split
          · simp
          · simp [ha]
        · split
          · rename_i c
            rcases List.mem_append.mp hz with hz | hz
            · cases q : lt z y with
              | false => rfl
              | true =>
                have := tr z (hse z hz) y hyx a hax q c
                rw [hs z hz] at this; cases this
            · rw [List.mem_singleton.mp hz]; exact ir y hyx
          · rename_i c
            rcases List.mem_append.mp hz with hz | hz
            · exact hs z hz
            · rw [List.mem_singleton.mp hz]
              cases q : lt y a with
              | false => rfl
              | true => exact absurd q c
    have := key xs x [x] (fun y hy => by simp [hy]) (fun y hy => by rw [List.mem_singleton.mp hy]; simp) (by simp) (fun y hy => by rw [List.mem_singleton.mp hy]; exact ir x (by simp))
    rw [h] at this
    simpa using this
theorem least_some {α : Type} {lt : α → α → Bool} {l : List α} (h : l ≠ []) : ∃ m, least lt l = some m := by
  cases l with
  | nil => exact absurd rfl h
  | cons x xs => exact ⟨_, rfl⟩
def ixs (w : List Nat) : List Int := w.map fun c => (idx c : Int)
def wlt (u v : List Nat) : Bool := if u.length = v.length then decide (ixs u < ixs v) else decide (u.length < v.length)
theorem lt_irr (u : List Int) : ¬ u < u := List.lt_irrefl u
theorem wlt_irr (u : List Nat) : wlt u u = false := by unfold wlt; rw [if_pos rfl]; exact decide_eq_false (lt_irr _)
theorem wlt_tr {u v x : List Nat} (h : wlt u v = true) (k : wlt v x = true) : wlt u x = true := by
  unfold wlt at h k ⊢
  split at h <;> split at k
  · rename_i a b
    rw [if_pos (a.trans b)]
    exact decide_eq_true (List.lt_trans (of_decide_eq_true h) (of_decide_eq_true k))
  · rename_i a b
    rw [if_neg (by omega)]; have := of_decide_eq_true k; exact decide_eq_true (by omega)
  · rename_i a b
    rw [if_neg (by omega)]; have := of_decide_eq_true h; exact decide_eq_true (by omega)
  · rename_i a b
    have h1 := of_decide_eq_true h
    have h2 := of_decide_eq_true k
    rw [if_neg (by omega)]; exact decide_eq_true (by omega)
theorem idx_inj {a b : Nat} (ha : a ∈ lets) (hb : b ∈ lets) (h : idx a = idx b) : a = b := by
  rcases lets_cases ha with rfl | rfl | rfl | rfl | rfl | rfl | rfl | rfl <;> rcases lets_cases hb with rfl | rfl | rfl | rfl | rfl | rfl | rfl | rfl <;> first | rfl | (exfalso; revert h; decide)
theorem ixs_inj : ∀ {u v : List Nat}, Lw u → Lw v → ixs u = ixs v → u = v
  | [], [], _, _, _ => rfl
  | [], _ :: _, _, _, h => by simp [ixs] at h
  | _ :: _, [], _, _, h => by simp [ixs] at h
  | a :: u, b :: v, hu, hv, h => by
    simp only [ixs, List.map_cons, List.cons.injEq] at h
    have h1 : idx a = idx b := by omega
    rw [idx_inj (hu a (by simp)) (hv b (by simp)) h1, ixs_inj (u := u) (v := v) (fun c hc => hu c (by simp [hc])) (fun c hc => hv c (by simp [hc])) h.2]
theorem wlt_tot {u v : List Nat} (hu : Lw u) (hv : Lw v) (h : wlt u v = false) (k : wlt v u = false) : u = v := by
  unfold wlt at h k
  split at h
  · rename_i a
    rw [if_pos a.symm] at k
    have h1 := of_decide_eq_false h
    have k1 := of_decide_eq_false k
    exact ixs_inj hu hv (List.le_antisymm (List.not_lt.mp k1) (List.not_lt.mp h1))
  · rename_i a
    rw [if_neg (Ne.symm a)] at k
    have h1 := of_decide_eq_false h
    have k1 := of_decide_eq_false k
    omega
def IsRot (m s : List Nat) : Prop := ∃ u v, m = u ++ v ∧ s = v ++ u
theorem IsRot.refl (m : List Nat) : IsRot m m := ⟨[], m, rfl, by simp⟩
theorem IsRot.symm {m s : List Nat} (h : IsRot m s) : IsRot s m := by
  obtain ⟨u, v, rfl, rfl⟩ := h; exact ⟨v, u, rfl, rfl⟩
theorem IsRot.trans {m s t : List Nat} (h : IsRot m s) (k : IsRot s t) : IsRot m t := by
  obtain ⟨u, v, rfl, rfl⟩ := h
  obtain ⟨u', v', e, rfl⟩ := k
  rcases List.append_eq_append_iff.mp e with ⟨a, rfl, rfl⟩ | ⟨a, rfl, rfl⟩
  · exact ⟨a, v' ++ v, by simp, by simp⟩
  · exact ⟨u ++ u', a, by simp, by simp⟩
theorem IsRot.len {m s : List Nat} (h : IsRot m s) : s.length = m.length := by
  obtain ⟨u, v, rfl, rfl⟩ := h; simp [Nat.add_comm]
theorem IsRot.lw {m s : List Nat} (h : IsRot m s) (k : Lw m) : Lw s := by
  obtain ⟨u, v, rfl, rfl⟩ := h; exact k.right.app k.left
def rot (m : List Nat) (k : Nat) : List Nat := m.drop k ++ m.take k
def rots (m : List Nat) : List (List Nat) := (List.range (max 1 m.length)).map (rot m)
theorem isRot_rot (m : List Nat) (k : Nat) : IsRot m (rot m k) := ⟨m.take k, m.drop k, (List.take_append_drop k m).symm, rfl⟩
theorem mem_rots {m s : List Nat} : s ∈ rots m ↔ IsRot m s := by
  constructor
  · intro h
    obtain ⟨k, _, rfl⟩ := List.mem_map.mp h
    exact isRot_rot m k
  · rintro ⟨u, v, rfl, rfl⟩
    refine List.mem_map.mpr ?_
    by_cases hv : v = []
    · subst hv
      exact ⟨0, by simp; omega, by simp [rot]⟩
    · refine ⟨u.length, List.mem_range.mpr ?_, by simp [rot]⟩
      have := List.length_pos_iff.mpr hv
      simp only [List.length_append]
      omega
theorem rots_ne (m : List Nat) : rots m ≠ [] := by
  intro h
  have := List.length_eq_zero_iff.mpr h
  simp only [rots, List.length_map, List.length_range] at this
  omega
/-- the first in order of all turnings -/
def rg (m : List Nat) : List Nat := (least wlt (rots m)).getD []
theorem rg_ok (m : List Nat) : IsRot m (rg m) ∧ ∀ s, IsRot m s → wlt s (rg m) = false := by
  obtain ⟨r, hr⟩ := least_some (lt := wlt) (rots_ne m)
  have := least_ok (lt := wlt) (fun _ _ _ _ _ _ => wlt_tr) (fun _ _ => wlt_irr _) hr
  unfold rg
  rw [hr]
  exact ⟨mem_rots.mp this.1, fun s hs => this.2 s (mem_rots.mpr hs)⟩
theorem rg_uniq {m r : List Nat} (hm : Lw m) (h : IsRot m r) (k : ∀ s, IsRot m s → wlt s r = false) : r = rg m :=
  wlt_tot (h.lw hm) ((rg_ok m).1.lw hm) ((rg_ok m).2 r h) (k _ (rg_ok m).1)
theorem rg_rot {m s : List Nat} (hm : Lw m) (h : IsRot m s) : rg s = rg m :=
  rg_uniq hm (h.trans (rg_ok s).1) fun t ht => (rg_ok s).2 t (h.symm.trans ht)
theorem rg_len (m : List Nat) : (rg m).length = m.length := (rg_ok m).1.len
theorem plain_cons2 {a b : Nat} {l : List Nat} : Plain (a :: b :: l) ↔ a ≠ inv b ∧ Plain (b :: l) := Iff.rfl
theorem plain_tail {a : Nat} {l : List Nat} (h : Plain (a :: l)) : Plain l := by
  cases l with
  | nil => trivial
  | cons b l => exact h.2
theorem plain_right : ∀ {s t : List Nat}, Plain (s ++ t) → Plain t
  | [], t, h => h
  | a :: s, t, h => plain_right (s := s) (plain_tail h)
theorem plain_join : ∀ {s t : List Nat} {x y : Nat}, Plain (s ++ [x]) → Plain (y :: t) → x ≠ inv y → Plain (s ++ [x] ++ (y :: t))
  | [], t, x, y, _, h, n => ⟨n, h⟩
  | [a], t, x, y, h, k, n => ⟨h.1, n, k⟩
  | a :: b :: s, t, x, y, h, k, n => ⟨h.1, plain_join (s := b :: s) h.2 k n⟩
theorem plain_at {s t : List Nat} {x y : Nat} (h : Plain (s ++ x :: y :: t)) : x ≠ inv y := (plain_right h).1
/-- plain all round -/
def CR (m : List Nat) : Prop := Plain (m ++ m)
theorem CR.plain {m : List Nat} (h : CR m) : Plain m := plain_left h
theorem cr_rot {m s : List Nat} (h : CR m) (r : IsRot m s) : CR s := by
  obtain ⟨u, v, rfl, rfl⟩ := r
  unfold CR at h ⊢
  rcases List.eq_nil_or_concat u with rfl | ⟨u', x, rfl⟩
  · simpa using h
  cases v with
  | nil => simpa using h
  | cons y v' =>
    rw [List.concat_eq_append] at h ⊢
    have h1 : Plain (y :: v' ++ (u' ++ [x])) := by
      have : (u' ++ [x] ++ y :: v') ++ (u' ++ [x] ++ y :: v') = (u' ++ [x]) ++ ((y :: v' ++ (u' ++ [x])) ++ y :: v') := by simp
      rw [this] at h
      exact plain_left (plain_right h)
    have h2 : x ≠ inv y := by
      have : (u' ++ [x] ++ y :: v') ++ (u' ++ [x] ++ y :: v') = u' ++ x :: y :: (v' ++ (u' ++ [x] ++ y :: v')) := by simp
      rw [this] at h
      exact plain_at h
    have h3 : Plain (y :: (v' ++ (u' ++ [x]))) := by simpa using h1
    have := plain_join (s := y :: v' ++ u') (t := v' ++ (u' ++ [x])) (x := x) (y := y) (by simpa using h1) h3 h2
    simpa using this
theorem cr_of {m : List Nat} (h : Plain m) (k : ∀ x y, m.getLast? = some x → m.head? = some y → x ≠ inv y) : CR m := by
  unfold CR
  rcases List.eq_nil_or_concat m with rfl | ⟨m', x, rfl⟩
  · trivial
  · rw [List.concat_eq_append] at h k ⊢
    cases e : m' ++ [x] with
    | nil => simp at e
    | cons y t =>
      have hy : x ≠ inv y := k x y (by simp) (by rw [e]; rfl)
      have h2 : Plain (y :: t) := by rw [← e]; exact h
      have := plain_join h h2 hy
      rw [e] at this
      exact this
theorem cr_ends {m : List Nat} {x y : Nat} (h : CR m) (hx : m.getLast? = some x) (hy : m.head? = some y) : x ≠ inv y := by
  obtain ⟨m', rfl⟩ := List.getLast?_eq_some_iff.mp hx
  unfold CR at h
  cases e : m' ++ [x] with
  | nil => simp at e
  | cons z t =>
    rw [e] at hy
    have hzy : z = y := Option.some.inj hy
    subst hzy
    have : (m' ++ [x]) ++ (m' ++ [x]) = m' ++ x :: z :: t := by
      conv => lhs; rhs; rw [e]
      simp
    rw [this] at h
    exact plain_at h
/-- the middle of a word -/
def mid (w : List Nat) : List Nat := if h : 2 ≤ w.length ∧ w.getLast? = w.head?.map inv then mid (w.tail.dropLast) else w
termination_by w.length
decreasing_by simp only [List.length_dropLast, List.length_tail]; omega
theorem mid_unf (w : List Nat) : mid w = if 2 ≤ w.length ∧ w.getLast? = w.head?.map inv then mid (w.tail.dropLast) else w := by
  rw [mid]; split <;> rfl
theorem mid_wrap {c : Nat} {v : List Nat} : mid (c :: v ++ [inv c]) = mid v := by
  have h : 2 ≤ (c :: v ++ [inv c]).length ∧ (c :: v ++ [inv c]).getLast? = (c :: v ++ [inv c]).head?.map inv := ⟨by simp, by rw [List.getLast?_concat]; rfl⟩
  rw [mid_unf, if_pos h]
  congr 1
  have : (c :: v ++ [inv c]).tail = v ++ [inv c] := rfl
  rw [this, List.dropLast_concat]
theorem mid_cr {m : List Nat} (h : CR m) : mid m = m := by
  rw [mid_unf, if_neg]
  rintro ⟨h1, h2⟩
  cases m with
  | nil => simp at h1
  | cons y t =>
    have hx : (y :: t).getLast? = some (inv y) := by rw [h2]; rfl
    exact cr_ends h hx rfl rfl
theorem mid_pmp : ∀ {p m : List Nat}, Lw p → CR m → mid (p ++ m ++ back p) = m
  | [], m, _, h => by simpa [back] using mid_cr h
  | c :: p, m, hp, h => by
    have e : (c :: p) ++ m ++ back (c :: p) = c :: (p ++ m ++ back p) ++ [inv c] := by rw [back_cons]; simp
    rw [e, mid_wrap]
    exact mid_pmp (p := p) (fun x hx => hp x (by simp [hx])) h
/-- a plain word is its middle, wound -/
theorem wound : ∀ (n : Nat) {w : List Nat}, w.length = n → Lw w → Plain w → ∃ p, w = p ++ mid w ++ back p ∧ CR (mid w) ∧ Lw p := by
  intro n
  induction n using Nat.strongRecOn with
  | _ n ih =>
    intro w hl hw hp
    by_cases h : 2 ≤ w.length ∧ w.getLast? = w.head?.map inv
    · cases w with
      | nil => simp at h
      | cons c t =>
        have h2 : (c :: t).getLast? = some (inv c) := by rw [h.2]; rfl
        obtain ⟨t', e⟩ := List.getLast?_eq_some_iff.mp h2
        cases t' with
        | nil => simp at e; simp [e.2] at h
        | cons c' v =>
          simp only [List.cons_append, List.cons.injEq] at e
          obtain ⟨rfl, rfl⟩ := e
          have hpv : Plain v := plain_left (plain_tail hp)
          have hwv : Lw v := fun x hx => hw x (by simp [hx])
          obtain ⟨p, e1, e2, e3⟩ := ih v.length (by simp at hl; omega) rfl hwv hpv
          have em : mid (c :: (v ++ [inv c])) = mid v := by have := mid_wrap (c := c) (v := v); simpa using this
          refine ⟨c :: p, ?_, by rw [em]; exact e2, fun x hx => ?_⟩
          · rw [em, back_cons]
            conv => lhs; rw [e1]
            simp
          · rcases List.mem_cons.mp hx with rfl | hx
            · exact hw x (by simp)
            · exact e3 x hx
    · have em : mid w = w := by rw [mid_unf, if_neg h]
      refine ⟨[], by rw [em]; simp [back], ?_, Lw.nil⟩
      rw [em]
      refine cr_of hp fun x y hx hy e => ?_
      cases w with
      | nil => simp at hx
      | cons z t =>
        cases hy
        cases t with
        | nil =>
          have hx : y = x := by simpa using hx
          rw [← hx] at e
          exact inv_ne (hw y (by simp)) e.symm
        | cons b t => exact h ⟨by simp, by rw [hx, e]; rfl⟩
theorem lw_mid {w : List Nat} (hw : Lw w) (hp : Plain w) : Lw (mid w) := by
  obtain ⟨p, e, _, _⟩ := wound _ rfl hw hp
  intro x hx
  exact hw x (by rw [e]; simp [hx])
theorem cr_mid {w : List Nat} (hw : Lw w) (hp : Plain w) : CR (mid w) := by
  obtain ⟨p, e, h, _⟩ := wound _ rfl hw hp; exact h
theorem mid_len (w : List Nat) : (mid w).length ≤ w.length := by
  have : ∀ (n : Nat) (w : List Nat), w.length = n → (mid w).length ≤ w.length := by
    intro n
    induction n using Nat.strongRecOn with
    | _ n ih =>
      intro w hl
      rw [mid_unf]
      split
      · rename_i h
        have hd : (w.tail.dropLast).length < n := by rw [List.length_dropLast, List.length_tail]; omega
        have := ih _ hd _ rfl
        rw [List.length_dropLast, List.length_tail] at this
        omega
      · exact Nat.le_refl _
  exact this _ w rfl
/-- the ring of a word -/
def ring (w : List Nat) : List Nat := rg (mid w)
theorem ring_cr {m : List Nat} (h : CR m) : ring m = rg m := by unfold ring; rw [mid_cr h]
/-- wound by a letter -/
theorem mid_conj1 {w : List Nat} {c : Nat} (hc : c ∈ lets) (hw : Lw w) (hp : Plain w) : IsRot (mid w) (mid (lay (c :: w ++ [inv c]))) := by
  obtain ⟨p, e, hcr, hlp⟩ := wound _ rfl hw hp
  generalize mid w = m at e hcr
  have hi := inv_inv hc
  cases p with
  | cons x p' =>
    by_cases hx : x = inv c
    · subst hx
      have e1 : c :: w ++ [inv c] = [] ++ c :: inv c :: (p' ++ m ++ back p' ++ [inv (inv c)] ++ [inv c]) := by rw [e, back_cons]; simp
      have e2 : p' ++ m ++ back p' ++ [inv (inv c)] ++ [inv c] = (p' ++ m ++ back p') ++ c :: inv c :: [] := by rw [hi]; simp
      have pl : Plain (p' ++ m ++ back p') := by
        have : w = (inv c :: (p' ++ m ++ back p')) ++ [inv (inv c)] := by rw [e, back_cons]; simp
        rw [this] at hp
        exact plain_tail (plain_left hp)
      rw [e1, lay_pair _ _ hc, List.nil_append, e2, lay_pair _ _ hc, List.append_nil, lay_plain pl, mid_pmp (fun y hy => hlp y (by simp [hy])) hcr]
      exact IsRot.refl m
    · have e1 : c :: w ++ [inv c] = (c :: x :: p') ++ m ++ back (c :: x :: p') := by rw [e, back_cons c]; simp
      have pl : Plain (c :: w ++ [inv c]) := by
        have hxl : x ∈ lets := hlp x (by simp)
        have h1 : c ≠ inv x := fun z => hx (by rw [z, inv_inv hxl])
        have ew : w = (x :: (p' ++ m ++ back p')) ++ [inv x] := by rw [e, back_cons]; simp
        have h2 : Plain (c :: x :: (p' ++ m ++ back p') ++ [inv x]) := ⟨h1, by have := hp; rw [ew] at this; exact this⟩
        rw [ew]
        have h3 := plain_join (s := c :: x :: (p' ++ m ++ back p')) (t := []) (x := inv x) (y := inv c) h2 trivial (fun z => hx (by rw [hi] at z; rw [← z, inv_inv hxl]))
        simpa using h3
      rw [lay_plain pl, e1, mid_pmp (p := c :: x :: p') (fun y hy => (List.mem_cons.mp hy).elim (fun z => z ▸ hc) (hlp y)) hcr]
      exact IsRot.refl m
  | nil =>
    have em : w = m := by rw [e]; simp [back]
    subst em
    cases hm : w with
    | nil =>
      have : lay (c :: [] ++ [inv c]) = [] := by have := lay_pair [] [] hc; simpa [lay] using this
      rw [this, mid_cr (m := []) trivial]
      exact IsRot.refl []
    | cons y t =>
      by_cases hy : y = inv c
      · subst hy
        have r : IsRot (inv c :: t) (t ++ [inv c]) := ⟨[inv c], t, rfl, rfl⟩
        have hcr2 : CR (t ++ [inv c]) := cr_rot (hm ▸ hcr) r
        have e1 : c :: (inv c :: t) ++ [inv c] = [] ++ c :: inv c :: (t ++ [inv c]) := by simp
        rw [e1, lay_pair _ _ hc, List.nil_append, lay_plain hcr2.plain, mid_cr hcr2]
        exact r
      · rcases List.eq_nil_or_concat (y :: t) with h | ⟨m'', x, h⟩
        · cases h
        rw [List.concat_eq_append] at h
        by_cases hx : x = c
        · subst hx
          have r : IsRot (y :: t) (x :: m'') := ⟨m'', [x], h, rfl⟩
          have hcr2 : CR (x :: m'') := cr_rot (hm ▸ hcr) r
          have e1 : x :: (y :: t) ++ [inv x] = (x :: m'') ++ x :: inv x :: [] := by rw [h]; simp
          rw [e1, lay_pair _ _ hc, List.append_nil, lay_plain hcr2.plain, mid_cr hcr2]
          exact r
        · have hyl : y ∈ lets := hw y (by rw [hm]; simp)
          have h1 : Plain (c :: y :: t) := ⟨fun z => hy (by rw [z, inv_inv hyl]), by rw [← hm]; exact hp⟩
          have h2 : Plain (c :: (y :: t) ++ [inv c]) := by
            have e3 : c :: (y :: t) = (c :: m'') ++ [x] := by rw [h]; simp
            have := plain_join (s := c :: m'') (t := []) (x := x) (y := inv c) (by rw [← e3]; exact h1) trivial (by rw [hi]; exact hx)
            rw [e3]
            simpa using this
          rw [lay_plain h2, mid_wrap, mid_cr (by rw [← hm]; exact hcr)]
          exact IsRot.refl _
/-- wound by a word -/
theorem mid_conj : ∀ {g w : List Nat}, Lw g → Lw w → IsRot (mid (lay w)) (mid (lay (g ++ w ++ back g)))
  | [], w, _, _ => by simpa [back] using IsRot.refl _
  | c :: g, w, hg, hw => by
    have hc : c ∈ lets := hg c (by simp)
    have hg' : Lw g := fun x hx => hg x (by simp [hx])
    have hv : Lw (g ++ w ++ back g) := (hg'.app hw).app (lw_back hg')
    have ih := mid_conj hg' hw
    have h1 := mid_conj1 hc (lw_lay hv) (plain_lay _)
    have e : lay (c :: lay (g ++ w ++ back g) ++ [inv c]) = lay ((c :: g) ++ w ++ back (c :: g)) := by
      have e1 : c :: lay (g ++ w ++ back g) ++ [inv c] = [c] ++ lay (g ++ w ++ back g) ++ [inv c] := by simp
      have e2 : (c :: g) ++ w ++ back (c :: g) = [c] ++ (g ++ w ++ back g) ++ [inv c] := by rw [back_cons]; simp
      rw [e1, e2, ← lay_left, lay_right _ hv, lay_left]
    rw [e] at h1
    exact ih.trans h1
theorem ring_conj {g w : List Nat} (hg : Lw g) (hw : Lw w) : ring (lay (g ++ w ++ back g)) = ring (lay w) :=
  rg_rot (lw_mid (lw_lay hw) (plain_lay w)) (mid_conj hg hw)
theorem ring_rot {m s : List Nat} (hm : Lw m) (h : CR m) (r : IsRot m s) : ring s = ring m := by
  rw [ring_cr h, ring_cr (cr_rot h r)]; exact rg_rot hm r
theorem cr_ring {w : List Nat} (hw : Lw w) (hp : Plain w) : CR (ring w) := cr_rot (cr_mid hw hp) (rg_ok _).1
theorem lw_ring {w : List Nat} (hw : Lw w) (hp : Plain w) : Lw (ring w) := (rg_ok _).1.lw (lw_mid hw hp)
theorem ring_len (w : List Nat) : (ring w).length ≤ w.length := by unfold ring; rw [rg_len]; exact mid_len w
theorem ring_ring {w : List Nat} (hw : Lw w) (hp : Plain w) : ring (ring w) = ring w := by
  have : ring (ring w) = ring (mid w) := ring_rot (lw_mid hw hp) (cr_mid hw hp) (rg_ok _).1
  rw [this, ring_cr (cr_mid hw hp)]; rfl
end Z
namespace Z
open PySem PySem.Spec L2
section
variable {ρ : Ev} {N C B : Ev → Prop} {T : Va → Ev → Prop} {m : M Va} {mc : M Bool} {st : MS} {vs : List Nat} {τ : Tgt} {α : Type} {xs : List α} {g h : α → D} {QL : List D → Ev → Prop}
/-- [h x for x in xs]: the slots as before behind each turn -/
theorem we_lcX (hl : xs.length ≤ big) (hs : ∀ x ∈ xs, ∃ ρ1, τ.f (g x) ρ = some ρ1 ∧ WE m ρ1 fun a ρ2 => WE (M.shr a) ρ2 fun y ρ3 => y = h x ∧ wipeE ρ3 vs = ρ) (k : QL (xs.map h) ρ) : WE (M.lcGo vs τ M.yes m (xs.map g) []) ρ QL := by
  refine we_lcGo (fun i acc ρ' => acc = (xs.take i).map h ∧ ρ' = ρ) ⟨rfl, rfl⟩ ?_ ?_
  · rintro i d acc ρ' e ⟨rfl, rfl⟩
    rw [List.getElem?_map] at e
    cases e1 : xs[i]? with
    | none => rw [e1] at e; cases e
    | some x =>
      rw [e1] at e
      cases e
      obtain ⟨ρ1, e2, w⟩ := hs x (List.mem_of_getElem? e1)
      refine ⟨ρ1, e2, ⟨⟨fun _ => ?_, fun z => by cases z⟩⟩⟩
      refine R.wp_mono w fun a ρ2 w2 => R.wp_mono w2 fun y ρ3 ⟨e3, e4⟩ => ?_
      have hi := (List.getElem?_eq_some_iff.mp e1).1
      refine ⟨by rw [List.length_map, List.length_take]; omega, ?_, e4⟩
      rw [e3, List.take_add_one, e1, List.map_append]; rfl
  · rintro acc ρ' ⟨rfl, rfl⟩
    rw [List.length_map, List.take_length]; exact k
/-- for x in xs, by what is ahead -/
theorem ws_loopX (Inv : List α → Ev → Prop) (h0 : Inv [] ρ) (hs : ∀ pre x post ρ, xs = pre ++ x :: post → Inv pre ρ → ∃ ρ1, τ.f (g x) ρ = some ρ1 ∧ WS st ρ1 (Inv (pre ++ [x])) T (Inv (pre ++ [x])) N) (hd : ∀ ρ, Inv xs ρ → N ρ) : WS (MS.loop τ st (xs.map g)) ρ N T C B := by
  refine ws_loop (fun i ρ => Inv (xs.take i) ρ) h0 ?_ ?_
  · intro i d ρ e hi
    rw [List.getElem?_map] at e
    cases e1 : xs[i]? with
    | none => rw [e1] at e; cases e
    | some x =>
      rw [e1] at e
      cases e
      have hlt := (List.getElem?_eq_some_iff.mp e1).1
      have ex : xs = xs.take i ++ x :: xs.drop (i + 1) := by
        rw [← drop_cons e1, List.take_append_drop]
      have e2 : xs.take (i + 1) = xs.take i ++ [x] := by rw [List.take_add_one, e1]; rfl
      rw [e2]
      exact hs _ x _ ρ ex hi
  · intro ρ h
    rw [List.length_map, List.take_length] at h
    exact hd ρ h
end
def opLtD (a b : D) : Option Va := if ordOk [a, b] then some (.sh (.bl (ltD a b))) else none
def opLtA (a b : D) : Option Va := match opLt a b with
  | some s => some s
  | none => opLtD a b
section
variable {X : Cx}
theorem op_ltD (hu : X.A.units + 64 < cLine) : OpR X (compareOp .Lt) (fun x y H Q => ∃ a b, Dp X.K H x (toP a) ∧ Dp X.K H y (toP b) ∧ ordOk [a, b] = true ∧ Q (.bl (ltD a b)) H) := by
  intro pins s σ H x y v u Q I rx ry h
  obtain ⟨a, b, hd, he, ho, q⟩ := h
  obtain ⟨as, r1⟩ := Dp.reads I _ x v hd rx
  obtain ⟨bs, r2⟩ := Dp.reads I _ y u he ry
  obtain ⟨al, nn, dp⟩ := ordOk_at ho (i := 0) (j := 1) rfl rfl
  refine PySem.W.rcLt_alike _ _ X.A s v u as bs r1 r2 al nn ?_ X.prog X.w X.xe _ ⟨.bl _, H, I, rfl, q⟩
  have := Nat.min_le_left (toP a).depth (toP b).depth
  omega
theorem bo_ltA (hu : X.A.units + 64 < cLine) : BO X (compareOp .Lt) opLtA := by
  obtain ⟨r, h1, h2⟩ := bo_lt (X := X)
  refine ⟨_, OpR.or h1 (op_ltD hu), fun G F H ρ σ x y dx dy s Q rp vx vy e k => ?_⟩
  unfold opLtA at e
  split at e
  · rename_i s' e'
    cases e
    exact .inl (h2 G F H ρ σ x y dx dy s Q rp vx vy e' k)
  · unfold opLtD at e
    split at e
    · rename_i ho
      cases e
      have hk : okDs 8 [dx, dy] = true := by
        unfold ordOk at ho
        simp only [Bool.and_eq_true] at ho
        exact ho.1
      have hk := okDs_mono 8 64 _ (by decide) hk
      simp only [okDs, Bool.and_eq_true, and_true] at hk
      exact .inr ⟨dx, dy, dp_vw rp.sub hk.1 vx, dp_vw rp.sub hk.2 vy, ho, k _ F H (Le.refl F) rp rv_bl⟩
    · cases e
end
theorem okDs_ints (n : Nat) : ∀ l : List Int, okDs n (l.map .int) = true
  | [] => rfl
  | i :: l => by simp only [List.map_cons, okDs, okD, okDs_ints n l, Bool.and_self]
theorem okDs_of {n : Nat} : ∀ {l : List D}, (∀ d ∈ l, okD n d = true) → okDs n l = true
  | [], _ => rfl
  | d :: l, h => by
    simp only [okDs, Bool.and_eq_true]
    exact ⟨h d (by simp), okDs_of fun x hx => h x (by simp [hx])⟩
end Z
namespace Z
open PySem PySem.Spec L2
end Z
namespace Z
open PySem PySem.Spec L2
theorem low1_li {c : Nat} (h : c ∈ lets) : PyProof.Rows.lo1 c = 97 + li c := by
  rw [low0 c (lets_lt h)]
  rcases lets_cases h with rfl | rfl | rfl | rfl | rfl | rfl | rfl | rfl <;> rfl
theorem lower_lw {w : List Nat} (h : Lw w) : (Txt.lower (S w)).cps.toList = w.map fun c => 97 + li c := by
  rw [PyProof.Rows.lower_ascii (x := S w) (by rw [S_toList]; intro c hc; exact lets_lt (h c hc))]
  simp only [S, Array.toList_map]
  exact List.map_congr_left fun c hc => low1_li (h c hc)
end Z
namespace Z
end Z
namespace Z
end Z
namespace Z
theorem eqD_lnil : eqD (.lst []) (.lst []) = true := rfl
theorem eqD_tnil : eqD (.tup []) (.tup []) = true := rfl
end Z
namespace Z
open PySem PySem.Spec L2
end Z
namespace Z
end Z
namespace Z
open PySem PySem.Spec
/-- a plain word is its ring, wound -/
theorem ring_wound {w : List Nat} (hw : Lw w) (hp : Plain w) : ∃ g, Lw g ∧ lay (g ++ ring w ++ back g) = w := by
  obtain ⟨p, e, hcr, hlp⟩ := wound _ rfl hw hp
  have hlm := lw_mid hw hp
  obtain ⟨a, b, hm, hr⟩ := (rg_ok (mid w)).1
  have hla : Lw a := by rw [hm] at hlm; exact hlm.left
  have hlb : Lw b := by rw [hm] at hlm; exact hlm.right
  refine ⟨p ++ a, hlp.app hla, ?_⟩
  have er : ring w = b ++ a := hr
  have e3 : (p ++ a) ++ ring w ++ back (p ++ a) = (p ++ a ++ b) ++ (a ++ back a) ++ back p := by rw [er, back_app]; simp
  rw [e3, ← lay_left, ← lay_right _ (hla.app (lw_back hla)), lay_back_right hla, List.append_nil, lay_left]
  have e4 : p ++ a ++ b ++ back p = w := by rw [List.append_assoc p a b, ← hm]; exact e.symm
  rw [e4, lay_plain hp]
theorem ring_nil : ring [] = [] := List.eq_nil_of_length_eq_zero (Nat.le_zero.mp (ring_len []))
theorem rt_nil (T : List (List Nat)) : rt T [] = [] := rfl
theorem ring_rt {T : List (List Nat)} (hT : Tl T) {w : List Nat} (hw : Lw w) (hp : Plain w) : ring (rt T w) = ring (rt T (ring w)) := by
  obtain ⟨g, hg, e⟩ := ring_wound hw hp
  have hr := lw_ring hw hp
  have h1 : rt T w = lay (F T g ++ F T (ring w) ++ back (F T g)) := by
    have : rt T w = rt T (lay (g ++ ring w ++ back g)) := by rw [e]
    rw [this, rt_lay hT ((hg.app hr).app (lw_back hg))]
    unfold rt
    rw [F_app, F_app, F_back hT hg]
  rw [h1, ring_conj (lw_F hT g) (lw_F hT _)]; rfl
/-- turned by a word -/
def tb (n : Int) (g : List Nat) : List (List Nat) := (lows n).map fun c => lay (g ++ [c] ++ back g)
theorem lows_get {n : Int} (h : 1 ≤ n) (h' : n ≤ 4) {k : Nat} (hk : k < n.toNat) : (lows n)[k]? = some (97 + k) := by
  rcases four h h' with rfl | rfl | rfl | rfl
  · have : k = 0 := by have : k < 1 := hk; omega
    subst this; rfl
  · have : k < 2 := hk
    have : k = 0 ∨ k = 1 := by omega
    rcases this with rfl | rfl <;> rfl
  · have : k < 3 := hk
    have : k = 0 ∨ k = 1 ∨ k = 2 := by omega
    rcases this with rfl | rfl | rfl <;> rfl
  · have : k < 4 := hk
    have : k = 0 ∨ k = 1 ∨ k = 2 ∨ k = 3 := by omega
    rcases this with rfl | rfl | rfl | rfl <;> rfl
theorem lay_mid2 (u v : List Nat) {w : List Nat} (hw : Lw w) : lay (u ++ lay w ++ v) = lay (u ++ w ++ v) := by
  rw [← lay_left (u ++ lay w) v, lay_right u hw, lay_left]
end Z
namespace Z
open PySem PySem.Spec
/-- a change of n: by b, on the side sd -/
structure Chg (n : Int) (b : Nat) (sd : List Nat) : Prop where
  bn : b ∈ Ln n
  sub : sd.Sublist (Ln n)
  own : b ∈ sd
  con : inv b ∉ sd
def chgD (b : Nat) (sd : List Nat) : D := .tup [.str [b], .tup (chars sd)]
theorem Chg.ln {n : Int} {b : Nat} {sd : List Nat} (h : Chg n b sd) : ∀ c ∈ sd, c ∈ Ln n := fun c hc => h.sub.subset hc
theorem Chg.lw {n : Int} {b : Nat} {sd : List Nat} (h : Chg n b sd) : Lw sd := fun c hc => Ln_lw n c (h.ln c hc)
theorem Ln_len8 (n : Int) : (Ln n).length ≤ 8 := by unfold Ln; rw [List.length_take]; exact Nat.min_le_right _ _
theorem Chg.len {n : Int} {b : Nat} {sd : List Nat} (h : Chg n b sd) : sd.length ≤ 8 := Nat.le_trans h.sub.length_le (Ln_len8 n)
theorem lows_len4 (n : Int) : (lows n).length ≤ 4 := by unfold lows; rw [List.length_take]; exact Nat.min_le_right _ _
theorem mem_low {n : Int} {o : Nat} (h : o ∈ lows n) : o = 97 ∨ o = 98 ∨ o = 99 ∨ o = 100 := by
  have := List.mem_of_mem_take h
  simpa using this
end Z
namespace Z
theorem li_mem {c : Nat} (h : c ∈ lets) : 97 + li c ∈ lets := by
  rcases lets_cases h with rfl | rfl | rfl | rfl | rfl | rfl | rfl | rfl <;> decide
end Z
namespace Z
open PySem PySem.Spec
inductive Stp where
  | chg (b : Nat) (sd : List Nat) | exc (e : List Nat)
def stepD : Stp → D
  | .chg b sd => .tup [.str [99, 104, 97, 110, 103, 101], .str [b], .tup (chars sd)]
  | .exc e => .tup [.str [101, 120, 99, 104, 97, 110, 103, 101], .tup (chars e)]
def ones (e : List Nat) : List (List Nat) := e.map fun c => [c]
def stepT (n : Int) : Stp → List (List Nat)
  | .chg b sd => chg n b sd
  | .exc e => ones e
/-- an exchange of n: of each letter and its contrary one, once -/
structure Exg (n : Int) (e : List Nat) : Prop where
  lw : Lw e
  perm : (e.map li).Perm (List.range n.toNat)
theorem Exg.len {n : Int} {e : List Nat} (h : Exg n e) (hn : 1 ≤ n) : (e.length : Int) = n := by
  have := h.perm.length_eq
  rw [List.length_map, List.length_range] at this
  omega
theorem Ln_of_li {n : Int} (h : 1 ≤ n) (h' : n ≤ 4) {c : Nat} (hc : c ∈ lets) (hl : li c < n.toNat) : c ∈ Ln n := by
  rcases four h h' with rfl | rfl | rfl | rfl <;> rcases lets_cases hc with rfl | rfl | rfl | rfl | rfl | rfl | rfl | rfl <;> revert hl <;> decide
theorem Exg.ln {n : Int} {e : List Nat} (h : Exg n e) (hn : 1 ≤ n) (hn' : n ≤ 4) : ∀ c ∈ e, c ∈ Ln n := fun c hc => by
  have : li c ∈ List.range n.toNat := h.perm.subset (List.mem_map.mpr ⟨c, hc, rfl⟩)
  exact Ln_of_li hn hn' (h.lw c hc) (List.mem_range.mp this)
def StepOk (n : Int) : Stp → Prop
  | .chg b sd => Chg n b sd
  | .exc e => Exg n e
/-- a road as a retelling -/
def roadT (n : Int) (ss : List Stp) : List (List Nat) := ss.foldl (fun T s => thn T (stepT n s)) (same n)
theorem roadT_snoc (n : Int) (ss : List Stp) (s : Stp) : roadT n (ss ++ [s]) = thn (roadT n ss) (stepT n s) := by unfold roadT; rw [List.foldl_append]; rfl
theorem opPop_at {l : List D} {i : Int} {d : D} (h0 : 0 ≤ i) (hl : l.length ≤ big) (h : l[i.toNat]? = some d) : opPop l [.int i] = some (d, l.eraseIdx i.toNat) := by
  have hlt := (List.getElem?_eq_some_iff.mp h).1
  have hb : (big : Nat) = 16777216 := rfl
  unfold opPop
  simp only
  rw [if_pos (lim62_ok (by omega) (by omega)), ixN_nn h0 (by omega)]
  simp only [Option.bind_some, h, Option.map_some]
theorem chars_erase (w : List Nat) (i : Nat) : (chars w).eraseIdx i = chars (w.eraseIdx i) := by
  unfold chars
  induction w generalizing i with
  | nil => rfl
  | cons c w ih =>
    cases i with
    | zero => rfl
    | succ i => simp only [List.map_cons, List.eraseIdx_cons_succ, ih i]
end Z
namespace Z
theorem erase_perm {α : Type} : ∀ {l : List α} {i : Nat} (h : i < l.length), (l[i] :: l.eraseIdx i).Perm l
  | [], i, h => absurd h (Nat.not_lt_zero _)
  | a :: l, 0, h => List.Perm.refl _
  | a :: l, i + 1, h => by
    have ih := erase_perm (l := l) (i := i) (by simpa using h)
    simp only [List.getElem_cons_succ, List.eraseIdx_cons_succ]
    exact (List.Perm.swap ..).trans (List.Perm.cons a ih)
end Z
namespace Z
open PySem PySem.Spec L2
end Z
namespace Z
open PySem PySem.Spec L2
end Z
namespace Z
open PySem PySem.Spec PyProof.Rows L2
section
variable {X : Cx} {W : WX} {pos : Pos} {K : Frag} {F H : Hp} {En : Ends}
def opRev : D → Option Va
  | .lst l => some (.nw (.lst l.reverse))
  | .tup l => some (.sh (.tup l.reverse))
  | .str s => if s.length ≤ big then some (.sh (.str s.reverse)) else none
  | _ => none
def MS.par (τ : Tgt) (ms : M (List Va)) : MS := fun ρ => (ms ρ).thn fun l ρ => (M.shrs l ρ).thn fun ds ρ => match τ.f (.tup ds) ρ with
  | some ρ' => .nx ρ'
  | none => .bad
end
/-- with weakest preconditions -/
theorem ws_par {τ : Tgt} {ms : M (List Va)} {ρ : Ev} {N T C B} (h : WE ms ρ fun l ρ1 => WE (M.shrs l) ρ1 fun ds ρ2 => ∃ ρ3, τ.f (.tup ds) ρ2 = some ρ3 ∧ N ρ3) : WS (MS.par τ ms) ρ N T C B := thn_wp (R.wp_mono h fun a ρ1 h1 => thn_wp (R.wp_mono h1 fun d ρ2 ⟨ρ3, e, k⟩ => by unfold WS; simp only [e]; exact ⟨k⟩))
theorem opRev_str {s : List Nat} (z : s.length ≤ big) : opRev (.str s) = some (.sh (.str s.reverse)) := by unfold opRev; exact if_pos z
end Z
namespace Z
open PySem PySem.Spec PyProof.Rows L2
open PySem.W
end Z
namespace Z
open PySem PySem.Spec PyProof.Rows L2
end Z
namespace Z
open PySem PySem.Spec L2
def headT : List (D × D) → Bool
  | (.non, .non) :: _ => true
  | _ => false
/-- a key of the dict's own kind -/
def kindK (l : List (D × D)) (y : D) : Bool := if headT l then !(key1 y).isSome && (keyT y).isSome else (key1 y).isSome
def opGet : D → D → D → Option Va
  | .dic l, y, z => match dget l y with
    | some d => some (.sh d)
    | none => if kindK l y && flatD z then some (.sh z) else none
  | _, _, _ => none
def M.isD (m : M Va) : M Va := m.fz.bind fun a ρ => match a.get ρ with
  | some (.dic _) => .ok a ρ
  | _ => .bad
def M.use3 (o : D → D → D → Option Va) (a b c : Va) : M Va := M.ofO fun ρ => (a.get ρ).bind fun d => (b.get ρ).bind fun y => (c.get ρ).bind fun z => o d y z
def M.dget (md mk mx : M Va) : M Va := (M.isD md).bind fun a => mk.fz.bind fun b => mx.fz.bind fun c => M.use3 opGet a b c
theorem we_isD {m : M Va} {ρ : Ev} {Q : Va → Ev → Prop} (h : WE m ρ fun a ρ1 => ∃ l, a.fz.get ρ1 = some (.dic l) ∧ Q a.fz ρ1) : WE (M.isD m) ρ Q := we_bind (we_fz (R.wp_mono h fun a ρ1 ⟨l, e, k⟩ => by unfold WE; simp only [e]; exact ⟨k⟩))
theorem we_dget {md mk mx : M Va} {ρ : Ev} {Q : Va → Ev → Prop} (h : WE md ρ fun a ρ1 => ∃ l, a.fz.get ρ1 = some (.dic l) ∧ WE mk ρ1 fun b ρ2 => WE mx ρ2 fun c ρ3 => WE (M.use3 opGet a.fz b.fz c.fz) ρ3 Q) : WE (M.dget md mk mx) ρ Q :=
  we_bind (we_isD (R.wp_mono h fun a ρ1 ⟨l, e, k⟩ => ⟨l, e, we_bind (we_fz (R.wp_mono k fun b ρ2 k2 => we_bind (we_fz k2)))⟩))
theorem we_use3 {o : D → D → D → Option Va} {a b c : Va} {ρ : Ev} {x y z : D} {s : Va} {Q : Va → Ev → Prop} (h1 : a.get ρ = some x) (h2 : b.get ρ = some y) (h3 : c.get ρ = some z) (h4 : o x y z = some s) (k : Q s ρ) : WE (M.use3 o a b c) ρ Q := by
  unfold WE M.use3 M.ofO
  simp only [h1, h2, h3, Option.bind_some, h4]
  exact ⟨k⟩
end Z
namespace Z
open PySem PySem.Spec L2
end Z
namespace Z
open PySem PySem.Spec L2
end Z
namespace Z
open PySem PySem.Spec L2
theorem ln_sorted (n : Int) : (Ln n).Pairwise (fun c d => idx c < idx d) := by
  unfold Ln
  exact List.Pairwise.sublist (List.take_sublist _ _) (by decide)
theorem ln_nodup (n : Int) : (Ln n).Nodup := (ln_sorted n).imp fun h e => by subst e; omega
def sdB (n : Int) (b : Nat) (sd : List Nat) : List Nat := (Ln n).filter fun c => decide ((c ∈ sd ∧ c ≠ b) ∨ c = inv b)
theorem Chg.back {n : Int} {b : Nat} {sd : List Nat} (h : 1 ≤ n) (h' : n ≤ 4) (g : Chg n b sd) : Chg n (inv b) (sdB n b sd) := by
  have hb := Ln_inv h h' g.bn
  have hbl := Ln_lw n b g.bn
  refine ⟨hb, List.filter_sublist, List.mem_filter.mpr ⟨hb, decide_eq_true (.inr rfl)⟩, fun hm => ?_⟩
  rw [inv_inv hbl] at hm
  have := of_decide_eq_true (List.mem_filter.mp hm).2
  rcases this with ⟨_, k⟩ | k
  · exact k rfl
  · exact inv_ne hbl k.symm
theorem sdB_sdB {n : Int} {b : Nat} {sd : List Nat} (g : Chg n b sd) : sdB n (inv b) (sdB n b sd) = sd := by
  have hbl := Ln_lw n b g.bn
  have hP : sd.Perm (sdB n (inv b) (sdB n b sd)) := by
    refine (List.perm_ext_iff_of_nodup ((ln_nodup n).sublist g.sub) ((ln_nodup n).filter _)).mpr fun c => ?_
    unfold sdB
    simp only [List.mem_filter, decide_eq_true_eq, inv_inv hbl]
    constructor
    · intro hc
      have hl := g.ln c hc
      refine ⟨hl, ?_⟩
      by_cases e : c = b
      · exact .inr e
      · exact .inl ⟨⟨hl, .inl ⟨hc, e⟩⟩, fun z => g.con (z ▸ hc)⟩
    · rintro ⟨hl, ⟨⟨_, ⟨h, _⟩ | h⟩, k⟩ | rfl⟩
      · exact h
      · exact absurd h k
      · exact g.own
  refine (List.Perm.eq_of_pairwise (le := fun c d => idx c < idx d) (fun a b _ _ h1 h2 => by omega) ((ln_sorted n).sublist g.sub) ((ln_sorted n).filter _) hP).symm
end Z
namespace Z
open PySem PySem.Spec L2
theorem inv_pair {b o : Nat} (hb : b ∈ lets) (ho : o ∈ lets) : (inv o = b ∨ inv o = inv b) ↔ (o = b ∨ o = inv b) := by
  constructor
  · rintro (h | h)
    · right; rw [← h, inv_inv ho]
    · left; have := congrArg inv h; rwa [inv_inv ho, inv_inv hb] at this
  · rintro (rfl | rfl)
    · right; rfl
    · left; exact inv_inv hb
theorem back_chgL {b o : Nat} (hb : b ∈ lets) (ho : o ∈ lets) (sd : List Nat) : back (chgL b sd o) = chgL b sd (inv o) := by
  unfold chgL
  by_cases h : o = b ∨ o = inv b
  · rw [if_pos h, if_pos ((inv_pair hb ho).mpr h)]; rfl
  · rw [if_neg h, if_neg (fun z => h ((inv_pair hb ho).mp z)), inv_inv ho, back_app, back_app]
    have b1 : back (if inv o ∈ sd then [inv b] else []) = if inv o ∈ sd then [b] else [] := by
      split
      · simp [back, inv_inv hb]
      · rfl
    have b2 : back (if o ∈ sd then [b] else []) = if o ∈ sd then [inv b] else [] := by split <;> rfl
    rw [b1, b2]
    simp [back]
theorem sub_chg {n : Int} (h : 1 ≤ n) (h' : n ≤ 4) {b : Nat} (hb : b ∈ lets) (sd : List Nat) {c : Nat} (hc : c ∈ Ln n) : sub (chg n b sd) c = chgL b sd c := by
  have hcl := Ln_lw n c hc
  have hk := li_n h h' hc
  have hgd : (chg n b sd).getD (li c) [] = chgL b sd (97 + li c) := by
    unfold chg
    rw [List.getD_eq_getElem?_getD, List.getElem?_map, lows_get h h' hk]; rfl
  rw [sub_li, hgd]
  split
  · rename_i z
    rw [back_chgL hb (li_mem hcl)]
    have : inv (97 + li c) = c := by rcases lets_cases hcl with rfl | rfl | rfl | rfl | rfl | rfl | rfl | rfl <;> first | rfl | (exfalso; revert z; decide)
    rw [this]
  · rename_i z
    have : 97 + li c = c := by rcases lets_cases hcl with rfl | rfl | rfl | rfl | rfl | rfl | rfl | rfl <;> first | rfl | (exfalso; exact z (by decide))
    rw [this]
theorem chgL_self {b : Nat} (hb : b ∈ lets) (sd : List Nat) : chgL (inv b) sd b = [b] ∧ chgL (inv b) sd (inv b) = [inv b] := by
  unfold chgL
  exact ⟨if_pos (.inr (inv_inv hb).symm), if_pos (.inl rfl)⟩
theorem chg_back {n : Int} (h : 1 ≤ n) (h' : n ≤ 4) {b : Nat} {sd : List Nat} (g : Chg n b sd) : thn (chg n b sd) (chg n (inv b) (sdB n b sd)) = same n := by
  have hbl := Ln_lw n b g.bn
  have hib := Ln_inv h h' g.bn
  have hsub : ∀ c ∈ Ln n, sub (chg n (inv b) (sdB n b sd)) c = chgL (inv b) (sdB n b sd) c := fun c hc => sub_chg h h' (inv_mem hbl) _ hc
  have s1 : sub (chg n (inv b) (sdB n b sd)) b = [b] := (hsub b g.bn).trans (chgL_self hbl _).1
  have s2 : sub (chg n (inv b) (sdB n b sd)) (inv b) = [inv b] := (hsub _ hib).trans (chgL_self hbl _).2
  unfold thn same
  have : chg n b sd = (lows n).map (chgL b sd) := rfl
  rw [this, List.map_map]
  refine List.map_congr_left fun c hc => ?_
  show rt (chg n (inv b) (sdB n b sd)) (chgL b sd c) = [c]
  have hcl := lw_lows n c hc
  have hcn : c ∈ Ln n := lows_Ln h h' hc
  have one : lay [c] = [c] := lay_plain trivial
  by_cases e : c = b ∨ c = inv b
  · have e1 : chgL b sd c = [c] := if_pos e
    rw [e1, rt, F_one]
    rcases e with rfl | rfl
    · rw [s1]; exact one
    · rw [s2]; exact one
  · have e2 : ¬ (inv c = b ∨ inv c = inv b) := fun z => e ((inv_pair hbl hcl).mp z)
    have m1 : c ∈ sdB n b sd ↔ c ∈ sd := by
      unfold sdB
      simp only [List.mem_filter, decide_eq_true_eq]
      exact ⟨fun z => z.2.elim (fun y => y.1) fun y => absurd (.inr y) e, fun z => ⟨hcn, .inl ⟨z, fun y => e (.inl y)⟩⟩⟩
    have m2 : inv c ∈ sdB n b sd ↔ inv c ∈ sd := by
      unfold sdB
      simp only [List.mem_filter, decide_eq_true_eq]
      exact ⟨fun z => z.2.elim (fun y => y.1) fun y => absurd (.inr y) e2, fun z => ⟨Ln_inv h h' hcn, .inl ⟨z, fun y => e2 (.inl y)⟩⟩⟩
    have e3 : chgL b sd c = (if inv c ∈ sd then [inv b] else []) ++ ([c] ++ (if c ∈ sd then [b] else [])) := if_neg e
    have e4 : chgL (inv b) (sdB n b sd) c = (if inv c ∈ sd then [b] else []) ++ ([c] ++ (if c ∈ sd then [inv b] else [])) := by
      have : ¬ (c = inv b ∨ c = inv (inv b)) := by rw [inv_inv hbl]; exact fun z => e z.symm
      unfold chgL
      rw [if_neg this, inv_inv hbl]
      simp only [m1, m2]
    rw [e3, rt, F_app, F_app, F_one, hsub c hcn, e4]
    have f1 : F (chg n (inv b) (sdB n b sd)) (if inv c ∈ sd then [inv b] else []) = if inv c ∈ sd then [inv b] else [] := by
      split
      · rw [F_one, s2]
      · rfl
    have f2 : F (chg n (inv b) (sdB n b sd)) (if c ∈ sd then [b] else []) = if c ∈ sd then [b] else [] := by
      split
      · rw [F_one, s1]
      · rfl
    rw [f1, f2]
    have p1 : ∀ u v : List Nat, lay (u ++ inv b :: b :: v) = lay (u ++ v) := fun u v => lay_pair' u v hbl
    by_cases z1 : inv c ∈ sd <;> by_cases z2 : c ∈ sd
    · simp only [z1, z2, if_true, List.cons_append, List.nil_append]
      have a1 := p1 [] (c :: [inv b, b])
      have a2 := p1 [c] []
      simp only [List.nil_append, List.cons_append, List.append_nil] at a1 a2
      rw [a1, a2, one]
    · simp only [z1, z2, if_true, if_false, List.cons_append, List.nil_append, List.append_nil]
      have a1 := p1 [] [c]
      simp only [List.nil_append] at a1
      rw [a1, one]
    · simp only [z1, z2, if_true, if_false, List.cons_append, List.nil_append, List.append_nil]
      have a2 := p1 [c] []
      simp only [List.nil_append, List.cons_append, List.append_nil] at a2
      rw [a2, one]
    · simp only [z1, z2, if_false, List.nil_append, List.append_nil]
      exact one
end Z
namespace Z
open PySem PySem.Spec L2
def exB (n : Int) (e : List Nat) : List Nat := (lows n).map fun c => if c ∈ e then 97 + e.findIdx (fun y => decide (y = c)) else 65 + e.findIdx (fun y => decide (y = inv c))
theorem Exg.nd {n : Int} {e : List Nat} (h : Exg n e) : (e.map li).Nodup := h.perm.symm.nodup List.nodup_range
theorem Exg.uniq {n : Int} {e : List Nat} (h : Exg n e) {i j : Nat} {x y : Nat} (hi : e[i]? = some x) (hj : e[j]? = some y) (hl : li x = li y) : i = j := by
  have nd := List.pairwise_iff_getElem.mp h.nd
  obtain ⟨a1, a2⟩ := List.getElem?_eq_some_iff.mp hi
  obtain ⟨b1, b2⟩ := List.getElem?_eq_some_iff.mp hj
  rcases Nat.lt_trichotomy i j with z | z | z
  · exact absurd (by rw [List.getElem_map, List.getElem_map, a2, b2]; exact hl) (nd i j (by rw [List.length_map]; exact a1) (by rw [List.length_map]; exact b1) z)
  · exact z
  · exact absurd (by rw [List.getElem_map, List.getElem_map, a2, b2]; exact hl.symm) (nd j i (by rw [List.length_map]; exact b1) (by rw [List.length_map]; exact a1) z)
theorem Exg.idx {n : Int} {e : List Nat} (h : Exg n e) {i x : Nat} (hi : e[i]? = some x) : e.findIdx (fun y => decide (y = x)) = i := by
  obtain ⟨a1, a2⟩ := List.getElem?_eq_some_iff.mp hi
  refine (List.findIdx_eq a1).mpr ⟨decide_eq_true a2, fun j hj => decide_eq_false fun z => ?_⟩
  have := h.uniq (List.getElem?_eq_getElem (Nat.lt_trans hj a1)) hi (by rw [z])
  omega
theorem exc_back {n : Int} (h : 1 ≤ n) (h' : n ≤ 4) {e : List Nat} (g : Exg n e) : thn (ones e) (ones (exB n e)) = same n := by
  have hlen := g.len h
  apply List.ext_getElem?
  intro i
  unfold thn same ones
  rw [List.getElem?_map, List.getElem?_map, List.getElem?_map]
  by_cases hi : i < n.toNat
  · rw [lows_get h h' hi]
    obtain ⟨x, hx⟩ : ∃ x, e[i]? = some x := ⟨_, List.getElem?_eq_getElem (show i < e.length by omega)⟩
    rw [hx]
    have hxe : x ∈ e := List.mem_of_getElem? hx
    have hxl := g.lw x hxe
    have hxn := g.ln h h' x hxe
    have hk := li_n h h' hxn
    have i4 : i < 4 := by omega
    show some (lay (F (ones (exB n e)) [x])) = some [97 + i]
    rw [F_one, sub_li]
    have hg : (ones (exB n e)).getD (li x) [] = [if 97 + li x ∈ e then 97 + e.findIdx (fun y => decide (y = 97 + li x)) else 65 + e.findIdx (fun y => decide (y = inv (97 + li x)))] := by
      unfold ones exB
      rw [List.getD_eq_getElem?_getD, List.getElem?_map, List.getElem?_map, lows_get h h' hk]; rfl
    rw [hg]
    split
    · rename_i z
      have e1 : inv (97 + li x) = x := by rcases lets_cases hxl with rfl | rfl | rfl | rfl | rfl | rfl | rfl | rfl <;> first | rfl | (exfalso; revert z; decide)
      have e2 : 97 + li x ∉ e := fun hm => by
        obtain ⟨j, hj⟩ := List.getElem?_of_mem hm
        have l1 : li x = li (97 + li x) := by rcases lets_cases hxl with rfl | rfl | rfl | rfl | rfl | rfl | rfl | rfl <;> decide
        have := g.uniq hx hj l1
        subst this
        rw [hx] at hj
        have := Option.some.inj hj
        omega
      rw [if_neg e2, e1, g.idx hx]
      have : i = 0 ∨ i = 1 ∨ i = 2 ∨ i = 3 := by omega
      rcases this with rfl | rfl | rfl | rfl <;> decide
    · rename_i z
      have e1 : 97 + li x = x := by rcases lets_cases hxl with rfl | rfl | rfl | rfl | rfl | rfl | rfl | rfl <;> first | rfl | (exfalso; exact z (by decide))
      rw [e1, if_pos hxe, g.idx hx]
      have : i = 0 ∨ i = 1 ∨ i = 2 ∨ i = 3 := by omega
      rcases this with rfl | rfl | rfl | rfl <;> decide
  · have l1 : (lows n)[i]? = none := by
      refine List.getElem?_eq_none ?_
      have : (lows n).length ≤ n.toNat := by unfold lows; rw [List.length_take]; omega
      omega
    rw [l1, List.getElem?_eq_none (by omega)]; rfl
end Z
namespace Z
open PySem PySem.Spec L2
def stepB (n : Int) : Stp → Stp
  | .chg b sd => .chg (inv b) (sdB n b sd)
  | .exc e => .exc (exB n e)
def roadB (n : Int) (ss : List Stp) : List Stp := (ss.map (stepB n)).reverse
theorem step_back {n : Int} (h : 1 ≤ n) (h' : n ≤ 4) {s : Stp} (g : StepOk n s) : thn (stepT n s) (stepT n (stepB n s)) = same n := by
  cases s with
  | chg b sd => exact chg_back h h' g
  | exc e => exact exc_back h h' g
/-- words of n's letters -/
def Wn (n : Int) (T : List (List Nat)) : Prop := ∀ w ∈ T, ∀ c ∈ w, c ∈ Ln n
theorem Wn.tl {n : Int} {T : List (List Nat)} (h : Wn n T) : Tl T := fun w hw c hc => Ln_lw n c (h w hw c hc)
theorem wn_thn {n : Int} (h : 1 ≤ n) (h' : n ≤ 4) {T U : List (List Nat)} (hU : Wn n U) : Wn n (thn T U) := fun w hw => by
  obtain ⟨v, _, rfl⟩ := List.mem_map.mp hw
  exact Ln_rt h h' hU v
theorem thn_same {n : Int} (h : 1 ≤ n) (h' : n ≤ 4) {A : List (List Nat)} (hA : Wn n A) (hp : ∀ w ∈ A, Plain w) : thn A (same n) = A := by
  unfold thn
  have : A.map (rt (same n)) = A.map id := List.map_congr_left fun w hw => by
    show lay (F (same n) w) = w
    rw [F_same h h' (hA w hw), lay_plain (hp w hw)]
  rw [this, List.map_id]
theorem wn_step {n : Int} (h : 1 ≤ n) (h' : n ≤ 4) {s : Stp} (g : StepOk n s) : Wn n (stepT n s) := by
  cases s with
  | chg b sd =>
    intro w hw
    obtain ⟨o, ho, rfl⟩ := List.mem_map.mp hw
    exact chgL_Ln h h' g.bn sd ho
  | exc e =>
    intro w hw c hc
    obtain ⟨x, hx, rfl⟩ := List.mem_map.mp hw
    rw [List.mem_singleton.mp hc]
    exact Exg.ln g h h' x hx
theorem thn_plain (T U : List (List Nat)) : ∀ w ∈ thn T U, Plain w := fun w hw => by
  obtain ⟨v, _, rfl⟩ := List.mem_map.mp hw
  exact plain_lay _
/-- a road told on -/
def roadOn (n : Int) (A : List (List Nat)) (ss : List Stp) : List (List Nat) := ss.foldl (fun T s => thn T (stepT n s)) A
theorem thn_road {n : Int} (h : 1 ≤ n) (h' : n ≤ 4) {A : List (List Nat)} (hA : Wn n A) (hp : ∀ w ∈ A, Plain w) (ss : List Stp) (hs : ∀ s ∈ ss, StepOk n s) : thn A (roadT n ss) = roadOn n A ss ∧ Wn n (roadT n ss) := by
  have key : ∀ (k : Nat) (ss : List Stp), ss.length = k → (∀ s ∈ ss, StepOk n s) → thn A (roadT n ss) = roadOn n A ss ∧ Wn n (roadT n ss) := by
    intro k
    induction k with
    | zero =>
      intro ss e _
      rw [List.length_eq_zero_iff] at e
      subst e
      refine ⟨thn_same h h' hA hp, fun w hw c hc => ?_⟩
      obtain ⟨x, hx, rfl⟩ := List.mem_map.mp hw
      rw [List.mem_singleton.mp hc]
      exact lows_Ln h h' hx
    | succ k ih =>
      intro ss e hs
      rcases List.eq_nil_or_concat ss with rfl | ⟨r, s, rfl⟩
      · simp at e
      rw [List.concat_eq_append] at e hs ⊢
      obtain ⟨e1, e2⟩ := ih r (by simpa using e) fun x hx => hs x (by simp [hx])
      have ws := wn_step h h' (hs s (by simp))
      rw [roadT_snoc]
      refine ⟨?_, wn_thn h h' ws⟩
      rw [← thn_assoc e2.tl ws.tl, e1]
      unfold roadOn
      rw [List.foldl_append]; rfl
  exact key _ ss rfl hs
theorem exB_Ln {n : Int} (h : 1 ≤ n) (h' : n ≤ 4) {e : List Nat} (g : Exg n e) : ∀ c ∈ exB n e, c ∈ Ln n := fun d hd => by
  obtain ⟨c, hc, rfl⟩ := List.mem_map.mp hd
  have hlen := g.len h
  have hcl := lw_lows n c hc
  have hcn := lows_Ln h h' hc
  have hk := li_n h h' hcn
  have ok : ∀ i : Nat, i < n.toNat → 97 + i ∈ Ln n ∧ 65 + i ∈ Ln n := fun i hi => by
    rcases four h h' with rfl | rfl | rfl | rfl
    · have : i = 0 := by simp at hi; omega
      subst this; exact ⟨by decide, by decide⟩
    · have : i = 0 ∨ i = 1 := by simp at hi; omega
      rcases this with rfl | rfl <;> exact ⟨by decide, by decide⟩
    · have : i = 0 ∨ i = 1 ∨ i = 2 := by simp at hi; omega
      rcases this with rfl | rfl | rfl <;> exact ⟨by decide, by decide⟩
    · have : i = 0 ∨ i = 1 ∨ i = 2 ∨ i = 3 := by simp at hi; omega
      rcases this with rfl | rfl | rfl | rfl <;> exact ⟨by decide, by decide⟩
  obtain ⟨x, hx, hl⟩ := List.mem_map.mp (g.perm.symm.subset (List.mem_range.mpr hk))
  have low := mem_low hc
  have hxc : x = c ∨ x = inv c := by
    have hxl := g.lw x hx
    rcases low with rfl | rfl | rfl | rfl <;> rcases lets_cases hxl with rfl | rfl | rfl | rfl | rfl | rfl | rfl | rfl <;> revert hl <;> decide
  split
  · rename_i z
    obtain ⟨i, hi⟩ := List.getElem?_of_mem z
    rw [g.idx hi]
    have := (List.getElem?_eq_some_iff.mp hi).1
    exact (ok i (by omega)).1
  · rename_i z
    have z2 : inv c ∈ e := hxc.elim (fun y => absurd (y ▸ hx) z) fun y => y ▸ hx
    obtain ⟨i, hi⟩ := List.getElem?_of_mem z2
    rw [g.idx hi]
    have := (List.getElem?_eq_some_iff.mp hi).1
    exact (ok i (by omega)).2
theorem wn_stepB {n : Int} (h : 1 ≤ n) (h' : n ≤ 4) {s : Stp} (g : StepOk n s) : Wn n (stepT n (stepB n s)) := by
  cases s with
  | chg b sd => exact wn_step (s := .chg (inv b) (sdB n b sd)) h h' (Chg.back h h' g)
  | exc e =>
    intro w hw c hc
    obtain ⟨x, hx, rfl⟩ := List.mem_map.mp hw
    rw [List.mem_singleton.mp hc]
    exact exB_Ln h h' g x hx
theorem roadOn_back {n : Int} (h : 1 ≤ n) (h' : n ≤ 4) : ∀ (ss : List Stp) {A : List (List Nat)}, Wn n A → (∀ w ∈ A, Plain w) → (∀ s ∈ ss, StepOk n s) → roadOn n A (ss ++ roadB n ss) = A
  | [], A, _, _, _ => rfl
  | s :: r, A, hA, hp, hs => by
    have g := hs s (by simp)
    have ws := wn_step h h' g
    have wb := wn_stepB h h' g
    have ih := roadOn_back h h' r (A := thn A (stepT n s)) (wn_thn h h' ws) (thn_plain _ _) fun x hx => hs x (by simp [hx])
    have e : s :: r ++ roadB n (s :: r) = s :: (r ++ roadB n r) ++ [stepB n s] := by simp [roadB]
    rw [e]
    unfold roadOn at ih ⊢
    rw [List.foldl_append]
    show thn (List.foldl (fun T s => thn T (stepT n s)) (thn A (stepT n s)) (r ++ roadB n r)) (stepT n (stepB n s)) = A
    rw [ih]
    show thn (thn A (stepT n s)) (stepT n (stepB n s)) = A
    rw [thn_assoc ws.tl wb.tl, step_back h h' g, thn_same h h' hA hp]
end Z
namespace Z
open PySem PySem.Spec L2
theorem li_ix {i : Nat} (h : i < 4) : li (97 + i) = i ∧ li (65 + i) = i ∧ 97 + i ∈ lets ∧ 65 + i ∈ lets := by
  have : i = 0 ∨ i = 1 ∨ i = 2 ∨ i = 3 := by omega
  rcases this with rfl | rfl | rfl | rfl <;> decide
theorem exB_get {n : Int} (h : 1 ≤ n) (h' : n ≤ 4) {e : List Nat} (g : Exg n e) {i x : Nat} (hi : e[i]? = some x) : ((exB n e).map li)[li x]? = some i := by
  have hx := List.mem_of_getElem? hi
  have hxl := g.lw x hx
  have hk := li_n h h' (g.ln h h' x hx)
  have hlen := g.len h
  have i4 : i < 4 := by have := (List.getElem?_eq_some_iff.mp hi).1; omega
  unfold exB
  rw [List.getElem?_map, List.getElem?_map, lows_get h h' hk]
  show some (li (if 97 + li x ∈ e then 97 + e.findIdx (fun y => decide (y = 97 + li x)) else 65 + e.findIdx (fun y => decide (y = inv (97 + li x))))) = some i
  split
  · rename_i z
    obtain ⟨j, hj⟩ := List.getElem?_of_mem z
    have l1 : li x = li (97 + li x) := by rcases lets_cases hxl with rfl | rfl | rfl | rfl | rfl | rfl | rfl | rfl <;> decide
    have := g.uniq hi hj l1
    subst this
    rw [g.idx hj, (li_ix i4).1]
  · rename_i z
    have e1 : inv (97 + li x) = x := by
      have : 97 + li x = x ∨ inv (97 + li x) = x := by rcases lets_cases hxl with rfl | rfl | rfl | rfl | rfl | rfl | rfl | rfl <;> decide
      exact this.elim (fun y => absurd (by rw [y]; exact hx) z) id
    rw [e1, g.idx hi, (li_ix i4).2.1]
theorem Exg.back {n : Int} (h : 1 ≤ n) (h' : n ≤ 4) {e : List Nat} (g : Exg n e) : Exg n (exB n e) := by
  have hlen := g.len h
  refine ⟨fun c hc => Ln_lw n c (exB_Ln h h' g c hc), ?_⟩
  have find : ∀ k, k < n.toNat → ∃ i x, e[i]? = some x ∧ li x = k := fun k hk => by
    obtain ⟨x, hx, hl⟩ := List.mem_map.mp (g.perm.symm.subset (List.mem_range.mpr hk))
    obtain ⟨i, hi⟩ := List.getElem?_of_mem hx
    exact ⟨i, x, hi, hl⟩
  have ll : ((exB n e).map li).length = n.toNat := by
    unfold exB
    rw [List.length_map, List.length_map]
    unfold lows
    rw [List.length_take]
    simp; omega
  refine (List.perm_ext_iff_of_nodup ?_ List.nodup_range).mpr fun i => ?_
  · refine List.pairwise_iff_getElem.mpr fun a b ha hb hab z => ?_
    obtain ⟨i, x, hi, hl⟩ := find a (by omega)
    obtain ⟨j, y, hj, hm⟩ := find b (by omega)
    have e1 := exB_get h h' g hi
    have e2 := exB_get h h' g hj
    rw [hl, List.getElem?_eq_getElem ha] at e1
    rw [hm, List.getElem?_eq_getElem hb] at e2
    have e1 := Option.some.inj e1
    have e2 := Option.some.inj e2
    rw [z, e2] at e1
    subst e1
    rw [hi] at hj
    cases hj
    omega
  · rw [List.mem_range]
    constructor
    · intro hm
      obtain ⟨k, hk⟩ := List.getElem?_of_mem hm
      have hkl := (List.getElem?_eq_some_iff.mp hk).1
      obtain ⟨j, y, hj, hm2⟩ := find k (by omega)
      have e1 := exB_get h h' g hj
      rw [hm2, hk] at e1
      cases e1
      have := (List.getElem?_eq_some_iff.mp hj).1
      omega
    · intro hi
      have : e[i]? = some e[i] := List.getElem?_eq_getElem (by omega)
      exact List.mem_of_getElem? (exB_get h h' g this)
theorem exB_val {n : Int} (h : 1 ≤ n) (h' : n ≤ 4) {e : List Nat} (g : Exg n e) {i x : Nat} (hi : e[i]? = some x) : (exB n e)[li x]? = some (if x < 97 then 65 + i else 97 + i) := by
  have hx := List.mem_of_getElem? hi
  have hxl := g.lw x hx
  have hk := li_n h h' (g.ln h h' x hx)
  unfold exB
  rw [List.getElem?_map, lows_get h h' hk]
  show some (if 97 + li x ∈ e then 97 + e.findIdx (fun y => decide (y = 97 + li x)) else 65 + e.findIdx (fun y => decide (y = inv (97 + li x)))) = _
  by_cases z : x < 97
  · rw [if_pos z]
    have e1 : inv (97 + li x) = x := by rcases lets_cases hxl with rfl | rfl | rfl | rfl | rfl | rfl | rfl | rfl <;> first | rfl | (exfalso; revert z; decide)
    have e2 : 97 + li x ∉ e := fun hm => by
      obtain ⟨j, hj⟩ := List.getElem?_of_mem hm
      have l1 : li x = li (97 + li x) := by rcases lets_cases hxl with rfl | rfl | rfl | rfl | rfl | rfl | rfl | rfl <;> decide
      have := g.uniq hi hj l1
      subst this
      rw [hi] at hj
      have := Option.some.inj hj
      omega
    rw [if_neg e2, e1, g.idx hi]
  · rw [if_neg z]
    have e1 : 97 + li x = x := by rcases lets_cases hxl with rfl | rfl | rfl | rfl | rfl | rfl | rfl | rfl <;> first | rfl | (exfalso; exact z (by decide))
    rw [e1, if_pos hx, g.idx hi]
theorem exB_exB {n : Int} (h : 1 ≤ n) (h' : n ≤ 4) {e : List Nat} (g : Exg n e) : exB n (exB n e) = e := by
  have hlen := g.len h
  have hb := g.back h h'
  have l2 := hb.back h h' |>.len h
  apply List.ext_getElem?
  intro i
  by_cases hi : i < e.length
  · have hx : e[i]? = some e[i] := List.getElem?_eq_getElem hi
    have i4 := li_ix (i := i) (by omega)
    have hxl := g.lw _ (List.mem_of_getElem? hx)
    have v1 := exB_val h h' g hx
    have v2 := exB_val h h' hb v1
    rw [hx]
    generalize e[i] = x at *
    by_cases z : x < 97
    · rw [if_pos z, i4.2.1] at v2
      rw [v2, if_pos (by omega)]
      congr 1
      rcases lets_cases hxl with rfl | rfl | rfl | rfl | rfl | rfl | rfl | rfl <;> first | rfl | (exfalso; revert z; decide)
    · rw [if_neg z, i4.1] at v2
      rw [v2, if_neg (by omega)]
      congr 1
      rcases lets_cases hxl with rfl | rfl | rfl | rfl | rfl | rfl | rfl | rfl <;> first | rfl | (exfalso; exact z (by decide))
  · rw [List.getElem?_eq_none (by omega), List.getElem?_eq_none (by omega)]
end Z
namespace Z
open PySem PySem.Spec L2
theorem stepB_ok {n : Int} (h : 1 ≤ n) (h' : n ≤ 4) {s : Stp} (g : StepOk n s) : StepOk n (stepB n s) := by
  cases s with
  | chg b sd => exact Chg.back h h' g
  | exc e => exact Exg.back h h' g
theorem stepB_stepB {n : Int} (h : 1 ≤ n) (h' : n ≤ 4) {s : Stp} (g : StepOk n s) : stepB n (stepB n s) = s := by
  cases s with
  | chg b sd =>
    show Stp.chg (inv (inv b)) (sdB n (inv b) (sdB n b sd)) = _
    rw [sdB_sdB g, inv_inv (Ln_lw n b g.bn)]
  | exc e =>
    show Stp.exc (exB n (exB n e)) = _
    rw [exB_exB h h' g]
theorem roadB_ok {n : Int} (h : 1 ≤ n) (h' : n ≤ 4) {ss : List Stp} (hs : ∀ s ∈ ss, StepOk n s) : ∀ s ∈ roadB n ss, StepOk n s := fun s m => by
  unfold roadB at m
  rw [List.mem_reverse] at m
  obtain ⟨t, ht, rfl⟩ := List.mem_map.mp m
  exact stepB_ok h h' (hs t ht)
theorem roadB_roadB {n : Int} (h : 1 ≤ n) (h' : n ≤ 4) {ss : List Stp} (hs : ∀ s ∈ ss, StepOk n s) : roadB n (roadB n ss) = ss := by
  unfold roadB
  rw [List.map_reverse, List.reverse_reverse, List.map_map]
  have : ss.map (stepB n ∘ stepB n) = ss.map id := List.map_congr_left fun s m => stepB_stepB h h' (hs s m)
  rw [this, List.map_id]
theorem plain_same {n : Int} : ∀ w ∈ same n, Plain w := fun w hw => by
  obtain ⟨c, _, rfl⟩ := List.mem_map.mp hw
  trivial
theorem wn_same {n : Int} (h : 1 ≤ n) (h' : n ≤ 4) : Wn n (same n) := fun w hw c hc => by
  obtain ⟨x, hx, rfl⟩ := List.mem_map.mp hw
  rw [List.mem_singleton.mp hc]
  exact lows_Ln h h' hx
theorem plain_road {n : Int} (ss : List Stp) : ∀ w ∈ roadT n ss, Plain w := by
  rcases List.eq_nil_or_concat ss with rfl | ⟨r, s, rfl⟩
  · exact plain_same
  · rw [List.concat_eq_append, roadT_snoc]; exact thn_plain _ _
theorem wn_road {n : Int} (h : 1 ≤ n) (h' : n ≤ 4) {ss : List Stp} (hs : ∀ s ∈ ss, StepOk n s) : Wn n (roadT n ss) :=
  (thn_road h h' (wn_same h h') plain_same ss hs).2
theorem road_there_back {n : Int} (h : 1 ≤ n) (h' : n ≤ 4) {ss : List Stp} (hs : ∀ s ∈ ss, StepOk n s) : thn (roadT n ss) (roadT n (roadB n ss)) = same n := by
  rw [(thn_road h h' (wn_road h h' hs) (plain_road ss) _ (roadB_ok h h' hs)).1]
  have := roadOn_back h h' ss (wn_same h h') plain_same hs
  unfold roadOn at this ⊢
  rw [List.foldl_append] at this
  exact this
theorem road_back_there {n : Int} (h : 1 ≤ n) (h' : n ≤ 4) {ss : List Stp} (hs : ∀ s ∈ ss, StepOk n s) : thn (roadT n (roadB n ss)) (roadT n ss) = same n := by
  have := road_there_back h h' (roadB_ok h h' hs)
  rwa [roadB_roadB h h' hs] at this
end Z
namespace Z
open PySem PySem.Spec L2
def hit (c : Nat) (p : Nat × Nat) : List Nat := (if p.2 = c then [p.1] else []) ++ (if p.2 = inv c then [inv p.1] else [])
end Z
namespace Z
open PySem PySem.Spec L2
def cpre (b : Nat) (sd : List Nat) (x : Nat) : List Nat := if inv x ∈ sd then [inv b] else []
def cpost (b : Nat) (sd : List Nat) (x : Nat) : List Nat := if x ∈ sd then [b] else []
def ccore (b : Nat) (x : Nat) : List Nat := if x = b ∨ x = inv b then [] else [x]
def cjun (b : Nat) (sd : List Nat) (x y : Nat) : List Nat := if x ∈ sd then (if inv y ∈ sd then [] else [b]) else (if inv y ∈ sd then [inv b] else [])
/-- what leaves: a tie between x and the contrary of y -/
def lve (sd : List Nat) (x y : Nat) : Bool := decide (x ∈ sd) != decide (inv y ∈ sd)
def vj (b : Nat) (sd : List Nat) : List Nat → Nat → List Nat
  | [], _ => []
  | x :: r, y => ccore b x ++ cjun b sd x (r.headD y) ++ vj b sd r y
def lv (sd : List Nat) : List Nat → Nat → Nat
  | [], _ => 0
  | x :: r, y => (lve sd x (r.headD y)).toNat + lv sd r y
section
variable {b : Nat} {sd : List Nat}
theorem inv_inj {c d : Nat} (hc : c ∈ lets) (hd : d ∈ lets) (h : inv c = inv d) : c = d := by rw [← inv_inv hc, h, inv_inv hd]
theorem chgL_parts (hb : b ∈ lets) (own : b ∈ sd) (con : inv b ∉ sd) (o : Nat) : chgL b sd o = cpre b sd o ++ ccore b o ++ cpost b sd o := by
  unfold chgL cpre ccore cpost
  by_cases h : o = b ∨ o = inv b
  · rw [if_pos h, if_pos h]
    rcases h with rfl | rfl
    · rw [if_neg con, if_pos own]; rfl
    · rw [inv_inv hb, if_pos own, if_neg con]; rfl
  · rw [if_neg h, if_neg h, List.append_assoc]
theorem vj_app (b : Nat) (sd : List Nat) : ∀ (u w : List Nat) (y : Nat), vj b sd (u ++ w) y = vj b sd u (w.headD y) ++ vj b sd w y
  | [], w, y => rfl
  | x :: u, w, y => by
    have ih := vj_app b sd u w y
    show ccore b x ++ cjun b sd x ((u ++ w).headD y) ++ vj b sd (u ++ w) y = ccore b x ++ cjun b sd x (u.headD (w.headD y)) ++ vj b sd u (w.headD y) ++ vj b sd w y
    rw [ih]
    have : (u ++ w).headD y = u.headD (w.headD y) := by cases u <;> rfl
    rw [this]; simp
def HP (b : Nat) (sd : List Nat) (x c : Nat) : Prop := (x = b → c = b ∨ (inv c ∈ sd ∧ c ≠ b ∧ c ≠ inv b)) ∧ (x = inv b → c = inv b ∨ (inv c ∉ sd ∧ c ≠ b ∧ c ≠ inv b)) ∧ (x ≠ b → x ≠ inv b → c = x)
theorem plain_cons_iff {a : Nat} {T : List Nat} : Plain (a :: T) ↔ (∀ c, T.head? = some c → a ≠ inv c) ∧ Plain T := by
  cases T with
  | nil => exact ⟨fun _ => ⟨(fun c h => by cases h), True.intro⟩, fun _ => True.intro⟩
  | cons c T =>
    rw [plain_cons2]
    constructor
    · rintro ⟨h, k⟩; exact ⟨fun d e => by cases e; exact h, k⟩
    · rintro ⟨h, k⟩; exact ⟨h c rfl, k⟩
theorem vj_step (hb : b ∈ lets) (own : b ∈ sd) (con : inv b ∉ sd) {x z : Nat} {T : List Nat} (hx : x ∈ lets) (hz : z ∈ lets) (hxz : x ≠ inv z) (hT : Plain T) (hTl : Lw T) (hh : ∀ c, T.head? = some c → HP b sd z c) :
    Plain (ccore b x ++ cjun b sd x z ++ T) ∧ ∀ c, (ccore b x ++ cjun b sd x z ++ T).head? = some c → HP b sd x c := by
  have bB : b ≠ inv b := fun e => inv_ne hb e.symm
  have hcl : ∀ c, T.head? = some c → c ∈ lets := fun c hc => hTl c (List.mem_of_mem_head? hc)
  -- Plain (jun ++ T)
  have hJ : Plain (cjun b sd x z ++ T) := by
    unfold cjun
    by_cases h1 : x ∈ sd
    · by_cases h2 : inv z ∈ sd
      · rw [if_pos h1, if_pos h2]; exact hT
      · rw [if_pos h1, if_neg h2]
        refine plain_cons_iff.mpr ⟨fun c hc e => ?_, hT⟩
        obtain ⟨p1, p2, p3⟩ := hh c hc
        by_cases zb : z = b
        · rcases p1 zb with q | ⟨_, _, q⟩
          · subst q; exact bB e
          · have : b = inv c := e
            have cl : c = inv b := by
              have := congrArg inv e
              rw [inv_inv (hcl c hc)] at this; exact this.symm
            exact q cl
        · by_cases zB : z = inv b
          · exact h2 (by rw [zB, inv_inv hb]; exact own)
          · have := p3 zb zB
            subst this
            exact h2 (e ▸ own)
    · by_cases h2 : inv z ∈ sd
      · rw [if_neg h1, if_pos h2]
        refine plain_cons_iff.mpr ⟨fun c hc e => ?_, hT⟩
        obtain ⟨p1, p2, p3⟩ := hh c hc
        have cb : c = b := (inv_inj hb (hcl c hc) e).symm
        by_cases zb : z = b
        · exact con (by rw [← zb]; exact h2)
        · by_cases zB : z = inv b
          · rcases p2 zB with q | ⟨_, q, _⟩
            · exact bB (cb.symm.trans q)
            · exact q cb
          · exact zb ((p3 zb zB).symm.trans cb)
      · rw [if_neg h1, if_neg h2]; exact hT
  by_cases hc : x = b ∨ x = inv b
  · have ec : ccore b x = [] := if_pos hc
    rw [ec, List.nil_append]
    refine ⟨hJ, fun c hcc => ?_⟩
    rcases hc with rfl | rfl
    · refine ⟨fun _ => ?_, fun e => absurd e bB, fun e => absurd rfl e⟩
      unfold cjun at hcc
      rw [if_pos own] at hcc
      by_cases h2 : inv z ∈ sd
      · rw [if_pos h2] at hcc
        have zb : z ≠ x := fun e => con (by rw [← e]; exact h2)
        have zB : z ≠ inv x := fun e => hxz (by rw [e, inv_inv hb])
        have := (hh c hcc).2.2 zb zB
        subst this
        exact .inr ⟨h2, zb, zB⟩
      · rw [if_neg h2] at hcc
        exact .inl (Option.some.inj hcc).symm
    · refine ⟨fun e => absurd e.symm bB, fun _ => ?_, fun _ e => absurd rfl e⟩
      unfold cjun at hcc
      rw [if_neg con] at hcc
      by_cases h2 : inv z ∈ sd
      · rw [if_pos h2] at hcc
        exact .inl (Option.some.inj hcc).symm
      · rw [if_neg h2] at hcc
        have zB : z ≠ inv b := fun e => h2 (by rw [e, inv_inv hb]; exact own)
        have zb : z ≠ b := fun e => hxz (by rw [e])
        have := (hh c hcc).2.2 zb zB
        subst this
        exact .inr ⟨h2, zb, zB⟩
  · have ec : ccore b x = [x] := if_neg hc
    have xb : x ≠ b := fun e => hc (.inl e)
    have xB : x ≠ inv b := fun e => hc (.inr e)
    rw [ec]
    refine ⟨?_, fun c hcc => ?_⟩
    · show Plain (x :: (cjun b sd x z ++ T))
      refine plain_cons_iff.mpr ⟨fun c hcc e => ?_, hJ⟩
      unfold cjun at hcc
      by_cases h1 : x ∈ sd
      · by_cases h2 : inv z ∈ sd
        · rw [if_pos h1, if_pos h2] at hcc
          obtain ⟨p1, p2, p3⟩ := hh c hcc
          by_cases zb : z = b
          · exact con (by rw [← zb]; exact h2)
          · by_cases zB : z = inv b
            · rcases p2 zB with q | ⟨q, _, _⟩
              · rw [q, inv_inv hb] at e; exact xb e
              · exact q (e ▸ h1)
            · have := p3 zb zB
              subst this
              exact hxz e
        · rw [if_pos h1, if_neg h2] at hcc
          have := Option.some.inj hcc
          subst this
          exact xB e
      · by_cases h2 : inv z ∈ sd
        · rw [if_neg h1, if_pos h2] at hcc
          have := Option.some.inj hcc
          rw [← this, inv_inv hb] at e
          exact xb e
        · rw [if_neg h1, if_neg h2] at hcc
          obtain ⟨p1, p2, p3⟩ := hh c hcc
          by_cases zb : z = b
          · rcases p1 zb with q | ⟨q, _, _⟩
            · rw [q] at e; exact xB e
            · exact h1 (e ▸ q)
          · by_cases zB : z = inv b
            · exact h2 (by rw [zB, inv_inv hb]; exact own)
            · have := p3 zb zB
              subst this
              exact hxz e
    · have := Option.some.inj hcc
      subst this
      exact ⟨fun e => absurd e xb, fun e => absurd e xB, fun _ _ => rfl⟩
theorem lw_cpre (hb : b ∈ lets) (x : Nat) : Lw (cpre b sd x) := by
  unfold cpre; split
  · exact Lw.one (inv_mem hb)
  · exact Lw.nil
theorem lw_cpost (hb : b ∈ lets) (x : Nat) : Lw (cpost b sd x) := by
  unfold cpost; split
  · exact Lw.one hb
  · exact Lw.nil
theorem lw_ccore {x : Nat} (hx : x ∈ lets) : Lw (ccore b x) := by
  unfold ccore; split
  · exact Lw.nil
  · exact Lw.one hx
theorem lw_cjun (hb : b ∈ lets) (x z : Nat) : Lw (cjun b sd x z) := by
  unfold cjun; split <;> split
  · exact Lw.nil
  · exact Lw.one hb
  · exact Lw.one (inv_mem hb)
  · exact Lw.nil
theorem lw_vj (hb : b ∈ lets) : ∀ {u : List Nat} {y : Nat}, Lw u → Lw (vj b sd u y)
  | [], _, _ => Lw.nil
  | x :: r, y, h => ((lw_ccore (h x (by simp))).app (lw_cjun hb x _)).app (lw_vj hb fun c hc => h c (List.mem_cons_of_mem _ hc))
theorem vj_plain (hb : b ∈ lets) (own : b ∈ sd) (con : inv b ∉ sd) : ∀ {u : List Nat} {y : Nat}, Lw (u ++ [y]) → Plain (u ++ [y]) → Plain (vj b sd u y) ∧ ∀ c, (vj b sd u y).head? = some c → HP b sd (u.headD y) c
  | [], y, _, _ => ⟨trivial, fun c h => by cases h⟩
  | x :: r, y, hl, hp => by
    have hp2 : Plain (r ++ [y]) := plain_tail hp
    obtain ⟨i1, i2⟩ := vj_plain hb own con (u := r) (y := y) (fun c hc => hl c (List.mem_cons_of_mem _ hc)) hp2
    have hz : r.headD y ∈ r ++ [y] := by cases r <;> simp
    refine vj_step hb own con (hl x (by simp)) (hl _ (List.mem_cons_of_mem _ hz)) ?_ i1 (lw_vj hb fun c hc => hl c (by simp [hc])) i2
    cases r with
    | nil => exact hp.1
    | cons z r => exact hp.1
theorem vj_len (hb : b ∈ lets) : ∀ (u : List Nat) (y : Nat), (vj b sd u y).length + (u.count b + u.count (inv b)) = u.length + lv sd u y
  | [], y => rfl
  | x :: r, y => by
    have ih := vj_len hb r y
    have bB : b ≠ inv b := fun e => inv_ne hb e.symm
    have h1 : (ccore b x).length + ((if x == b then 1 else 0) + (if x == inv b then 1 else 0)) = 1 := by
      unfold ccore
      by_cases xb : x = b
      · subst xb
        have : (x == inv x) = false := beq_eq_false_iff_ne.mpr bB
        simp [this]
      · by_cases xB : x = inv b
        · subst xB
          have : (inv b == b) = false := beq_eq_false_iff_ne.mpr bB.symm
          simp [this]
        · have e1 : (x == b) = false := beq_eq_false_iff_ne.mpr xb
          have e2 : (x == inv b) = false := beq_eq_false_iff_ne.mpr xB
          simp [xb, xB]
    have h2 : ∀ z, (cjun b sd x z).length = (lve sd x z).toNat := fun z => by
      unfold cjun lve
      by_cases h1 : x ∈ sd <;> by_cases h2 : inv z ∈ sd <;> simp [h1, h2]
    show (ccore b x ++ cjun b sd x (r.headD y) ++ vj b sd r y).length + _ = (x :: r).length + ((lve sd x (r.headD y)).toNat + lv sd r y)
    rw [List.length_append, List.length_append, h2, List.count_cons, List.count_cons, List.length_cons]
    omega
theorem lay_jun (hb : b ∈ lets) (u v : List Nat) (x z : Nat) : lay (u ++ (cpost b sd x ++ cpre b sd z) ++ v) = lay (u ++ cjun b sd x z ++ v) := by
  unfold cpost cpre cjun
  by_cases h1 : x ∈ sd <;> by_cases h2 : inv z ∈ sd
  · rw [if_pos h1, if_pos h2, if_pos h1, if_pos h2]
    have := lay_pair u v hb
    simpa using this
  · rw [if_pos h1, if_neg h2, if_pos h1, if_neg h2]; simp
  · simp [h1, h2]
  · simp [h1, h2]
theorem lay_chg (hb : b ∈ lets) (own : b ∈ sd) (con : inv b ∉ sd) : ∀ {u : List Nat} (y : Nat), Lw u → lay (u.flatMap (chgL b sd) ++ cpre b sd y) = lay (cpre b sd (u.headD y) ++ vj b sd u y)
  | [], y, _ => by simp [vj]
  | x :: r, y, h => by
    have ih := lay_chg hb own con (u := r) y fun c hc => h c (List.mem_cons_of_mem _ hc)
    have hr : Lw r := fun c hc => h c (List.mem_cons_of_mem _ hc)
    have hx := h x (by simp)
    rw [List.flatMap_cons, List.append_assoc]
    have lwF : Lw (r.flatMap (chgL b sd) ++ cpre b sd y) := by
      refine Lw.app (fun c hc => ?_) (lw_cpre hb y)
      obtain ⟨o, ho, hm⟩ := List.mem_flatMap.mp hc
      rw [chgL_parts hb own con] at hm
      exact (((lw_cpre hb o).app (lw_ccore (hr o ho))).app (lw_cpost hb o)) c hm
    have lwv : Lw (cpre b sd (r.headD y) ++ vj b sd r y) := (lw_cpre hb _).app (lw_vj hb hr)
    rw [← lay_right _ lwF, ih, lay_right _ lwv, chgL_parts hb own con]
    have := lay_jun (sd := sd) hb (cpre b sd x ++ ccore b x) (vj b sd r y) x (r.headD y)
    show _ = lay (cpre b sd x ++ (ccore b x ++ cjun b sd x (r.headD y) ++ vj b sd r y))
    simp only [List.append_assoc] at this ⊢
    exact this
/-- the ring behind a change, a word as it may be turned -/
theorem ring_chg (hb : b ∈ lets) (own : b ∈ sd) (con : inv b ∉ sd) {w : List Nat} (hw : Lw w) (hc : CR w) {x : Nat} (hx : w.head? = some x) : ring (lay (w.flatMap (chgL b sd))) = rg (vj b sd w x) ∧ CR (vj b sd w x) := by
  have hd : w.headD x = x := by cases w with
    | nil => cases hx
    | cons y r => cases hx; rfl
  have hcr : CR (vj b sd w x) := by
    have hp3 : Plain (w ++ w ++ [x]) := by
      rcases List.eq_nil_or_concat w with rfl | ⟨s, l, rfl⟩
      · cases hx
      · rw [List.concat_eq_append] at *
        have hl := cr_ends (x := l) (y := x) hc (by simp) hx
        have h1 : Plain ((s ++ [l]) ++ (s ++ [l])) := hc
        have e1 : s ++ [l] ++ (s ++ [l]) ++ [x] = (s ++ [l] ++ s) ++ [l] ++ [x] := by simp
        rw [e1]
        refine plain_join ?_ trivial hl
        simpa using h1
    have hlw : Lw (w ++ w ++ [x]) := (hw.app hw).app (Lw.one (hw x (by cases w with | nil => cases hx | cons y r => cases hx; simp)))
    have := (vj_plain hb own con hlw hp3).1
    rw [vj_app, hd] at this
    exact this
  refine ⟨?_, hcr⟩
  have hv := lw_vj (b := b) (sd := sd) (y := x) hb hw
  have hlF : Lw (w.flatMap (chgL b sd)) := fun c hcc => by
    obtain ⟨o, ho, hm⟩ := List.mem_flatMap.mp hcc
    rw [chgL_parts hb own con] at hm
    exact (((lw_cpre hb o).app (lw_ccore (hw o ho))).app (lw_cpost hb o)) c hm
  have hpw := lw_cpre (b := b) (sd := sd) hb x
  have h1 := lay_chg hb own con (u := w) x hw
  rw [hd] at h1
  have h2 : lay (back (cpre b sd x) ++ w.flatMap (chgL b sd) ++ back (back (cpre b sd x))) = vj b sd w x := by
    rw [back_back hpw, List.append_assoc, ← lay_right _ (hlF.app hpw), h1, lay_right _ (hpw.app hv), ← List.append_assoc, ← lay_left, lay_back_left hpw, List.nil_append, lay_plain hcr.plain]
  rw [← ring_conj (lw_back hpw) hlF, h2, ring_cr hcr]
end
end Z
namespace Z
open PySem PySem.Spec L2
abbrev LP := Nat × Nat
def aget (T : List (LP × Int)) (p : LP) : Option Int := (T.find? fun e => decide (e.1 = p)).map (·.2)
def aput (T : List (LP × Int)) (p : LP) (v : Int) : List (LP × Int) := if (T.any fun e => decide (e.1 = p)) = true then T.map (fun e => if e.1 = p then (e.1, v) else e) else T ++ [(p, v)]
def Nk (T : List (LP × Int)) : Prop := (T.map (·.1)).Nodup
theorem aget_some {T : List (LP × Int)} (h : Nk T) {e : LP × Int} (m : e ∈ T) : aget T e.1 = some e.2 := by
  induction T with
  | nil => cases m
  | cons x T ih =>
    have n1 := (List.nodup_cons.mp h).1
    unfold aget
    rw [List.find?_cons]
    rcases List.mem_cons.mp m with rfl | m
    · simp
    · have : x.1 ≠ e.1 := fun z => n1 (List.mem_map.mpr ⟨e, m, z.symm⟩)
      simp only [decide_eq_false this]
      exact ih (List.nodup_cons.mp h).2 m
theorem aput_keys (T : List (LP × Int)) (p : LP) (v : Int) : (aput T p v).map (·.1) = if (T.any fun e => decide (e.1 = p)) = true then T.map (·.1) else T.map (·.1) ++ [p] := by
  unfold aput
  by_cases h : (T.any fun e => decide (e.1 = p)) = true
  · rw [if_pos h, if_pos h, List.map_map]
    refine List.map_congr_left fun e _ => ?_
    simp only [Function.comp]; split <;> rfl
  · rw [if_neg h, if_neg h, List.map_append]; rfl
theorem Nk.put {T : List (LP × Int)} (h : Nk T) (p : LP) (v : Int) : Nk (aput T p v) := by
  unfold Nk
  rw [aput_keys]
  split
  · exact h
  · rename_i z
    refine List.nodup_append.mpr ⟨h, by simp, fun a ha b hb e => ?_⟩
    rw [List.mem_singleton.mp hb] at e
    subst e
    obtain ⟨x, hx, e2⟩ := List.mem_map.mp ha
    exact z (List.any_eq_true.mpr ⟨x, hx, decide_eq_true e2⟩)
theorem aput_len (T : List (LP × Int)) (p : LP) (v : Int) : (aput T p v).length ≤ T.length + 1 := by
  unfold aput; split
  · rw [List.length_map]; omega
  · simp
/-- the sum over keys with P -/
def asum (P : LP → Bool) (T : List (LP × Int)) : Int := ((T.filter fun e => P e.1).map (·.2)).sum
theorem asum_cons (P : LP → Bool) (e : LP × Int) (T : List (LP × Int)) : asum P (e :: T) = (if P e.1 = true then e.2 else 0) + asum P T := by
  unfold asum
  rw [List.filter_cons]
  split
  · rw [List.map_cons, List.sum_cons]
  · rw [Int.zero_add]
theorem asum_app (P : LP → Bool) (T U : List (LP × Int)) : asum P (T ++ U) = asum P T + asum P U := by
  unfold asum; rw [List.filter_append, List.map_append, List.sum_append]
theorem aget_nil (p : LP) : aget [] p = none := rfl
theorem aget_cons (e : LP × Int) (T : List (LP × Int)) (p : LP) : aget (e :: T) p = if e.1 = p then some e.2 else aget T p := by
  unfold aget; rw [List.find?_cons]
  by_cases h : e.1 = p
  · simp [h]
  · simp [h]
theorem aget_not {T : List (LP × Int)} {p : LP} (h : p ∉ T.map (·.1)) : aget T p = none := by
  induction T with
  | nil => rfl
  | cons e T ih =>
    rw [aget_cons, if_neg fun z => h (by rw [List.map_cons, z]; simp)]
    exact ih fun m => h (by rw [List.map_cons]; exact List.mem_cons_of_mem _ m)
theorem asum_set (P : LP → Bool) (p : LP) (v : Int) : ∀ {T : List (LP × Int)}, Nk T → (T.any fun e => decide (e.1 = p)) = true → asum P (T.map fun e => if e.1 = p then (e.1, v) else e) = asum P T + if P p = true then v - (aget T p).getD 0 else 0
  | [], _, h => by cases h
  | e :: T, nk, h => by
    have n1 := (List.nodup_cons.mp nk).1
    have n2 : Nk T := (List.nodup_cons.mp nk).2
    rw [List.map_cons, asum_cons, asum_cons, aget_cons]
    by_cases q : e.1 = p
    · have : T.map (fun e => if e.1 = p then (e.1, v) else e) = T := by
        have : T.map (fun e => if e.1 = p then (e.1, v) else e) = T.map id := List.map_congr_left fun x hx => by
          rw [if_neg fun z => n1 (List.mem_map.mpr ⟨x, hx, z.trans q.symm⟩)]; rfl
        rw [this, List.map_id]
      rw [this]
      simp only [if_pos q, Option.getD_some]
      rw [q]
      split <;> omega
    · simp only [if_neg q]
      have h2 : (T.any fun e => decide (e.1 = p)) = true := by
        rw [List.any_cons, decide_eq_false q, Bool.false_or] at h; exact h
      rw [asum_set P p v n2 h2]
      omega
theorem asum_put (P : LP → Bool) {T : List (LP × Int)} (nk : Nk T) (p : LP) (v : Int) : asum P (aput T p v) = asum P T + if P p = true then v - (aget T p).getD 0 else 0 := by
  unfold aput
  by_cases h : (T.any fun e => decide (e.1 = p)) = true
  · rw [if_pos h]; exact asum_set P p v nk h
  · rw [if_neg h, asum_app]
    have : aget T p = none := aget_not fun m => by
      obtain ⟨e, he, q⟩ := List.mem_map.mp m
      exact h (List.any_eq_true.mpr ⟨e, he, decide_eq_true q⟩)
    rw [this]
    unfold asum
    rw [List.filter_cons]
    by_cases q : P p = true
    · simp [q]
    · simp [q]
theorem aget_put (T : List (LP × Int)) (p q : LP) (v : Int) : aget (aput T p v) q = if q = p then some v else aget T q := by
  unfold aput
  by_cases h : (T.any fun e => decide (e.1 = p)) = true
  · rw [if_pos h]
    induction T with
    | nil => cases h
    | cons e T ih =>
      rw [List.map_cons, aget_cons, aget_cons]
      by_cases ep : e.1 = p
      · rw [if_pos ep]
        by_cases qp : q = p
        · rw [if_pos (by show e.1 = q; rw [ep, qp]), if_pos qp]
        · rw [if_neg (by show ¬ e.1 = q; rw [ep]; exact fun z => qp z.symm), if_neg qp, if_neg (by rw [ep]; exact fun z => qp z.symm)]
          by_cases h2 : (T.any fun e => decide (e.1 = p)) = true
          · rw [ih h2, if_neg qp]
          · have : T.map (fun e => if e.1 = p then (e.1, v) else e) = T.map id := List.map_congr_left fun x hx => by
              rw [if_neg fun z => h2 (List.any_eq_true.mpr ⟨x, hx, decide_eq_true z⟩)]; rfl
            rw [this, List.map_id]
      · rw [if_neg ep]
        have h2 : (T.any fun e => decide (e.1 = p)) = true := by
          rw [List.any_cons, decide_eq_false ep, Bool.false_or] at h; exact h
        rw [ih h2]
        by_cases qp : q = p
        · rw [if_pos qp, if_pos qp, if_neg (by rw [qp]; exact ep)]
        · rw [if_neg qp, if_neg qp]
  · rw [if_neg h]
    have hn : ∀ e ∈ T, e.1 ≠ p := fun e he z => h (List.any_eq_true.mpr ⟨e, he, decide_eq_true z⟩)
    clear h
    induction T with
    | nil =>
      rw [List.nil_append, aget_cons, aget_nil]
      by_cases qp : q = p
      · rw [if_pos qp, if_pos qp.symm]
      · rw [if_neg qp, if_neg fun z => qp z.symm]
    | cons e T ih =>
      rw [List.cons_append, aget_cons, aget_cons, ih fun x hx => hn x (by simp [hx])]
      by_cases qp : q = p
      · rw [if_pos qp, if_neg (by rw [qp]; exact hn e (by simp)), if_pos qp]
      · rw [if_neg qp, if_neg qp]
/-- pairs counted -/
def bump (T : List (LP × Int)) (p : LP) : List (LP × Int) := aput T p ((aget T p).getD 0 + 1)
def tally (ps : List LP) : List (LP × Int) := ps.foldl bump []
theorem tally_snoc (ps : List LP) (p : LP) : tally (ps ++ [p]) = bump (tally ps) p := by unfold tally; rw [List.foldl_append]; rfl
theorem tally_ok (ps : List LP) : Nk (tally ps) ∧ (tally ps).length ≤ ps.length ∧ (∀ P : LP → Bool, asum P (tally ps) = ps.countP P) ∧ (∀ p, (aget (tally ps) p).getD 0 = (ps.count p : Nat)) ∧ ∀ e ∈ tally ps, e.1 ∈ ps ∧ 1 ≤ e.2 := by
  have key : ∀ (k : Nat) (ps : List LP), ps.length = k → Nk (tally ps) ∧ (tally ps).length ≤ ps.length ∧ (∀ P : LP → Bool, asum P (tally ps) = ps.countP P) ∧ (∀ p, (aget (tally ps) p).getD 0 = (ps.count p : Nat)) ∧ ∀ e ∈ tally ps, e.1 ∈ ps ∧ 1 ≤ e.2 := by
    intro k
    induction k with
    | zero =>
      intro ps e
      rw [List.length_eq_zero_iff] at e
      subst e
      exact ⟨List.nodup_nil, Nat.le_refl _, fun P => rfl, fun p => rfl, fun e he => by cases he⟩
    | succ k ih =>
      intro ps e
      rcases List.eq_nil_or_concat ps with rfl | ⟨r, p, rfl⟩
      · simp at e
      rw [List.concat_eq_append] at e ⊢
      obtain ⟨h1, h2, h3, h4, h5⟩ := ih r (by simpa using e)
      rw [tally_snoc]
      unfold bump
      refine ⟨h1.put _ _, Nat.le_trans (aput_len _ _ _) (by rw [List.length_append]; simp only [List.length_cons, List.length_nil]; omega), fun P => ?_, fun q => ?_, fun e he => ?_⟩
      · rw [asum_put P h1, h3 P, List.countP_append, List.countP_cons, List.countP_nil]
        by_cases q : P p = true
        · simp [q]; omega
        · simp [q]
      · rw [aget_put, List.count_append, List.count_cons, List.count_nil]
        by_cases z : q = p
        · subst z
          simp only [if_true, Option.getD_some, beq_self_eq_true]
          rw [h4]; omega
        · have : (p == q) = false := beq_eq_false_iff_ne.mpr fun y => z y.symm
          rw [if_neg z, h4 q, this]; simp
      · have hp := h4 p
        unfold aput at he
        split at he
        · obtain ⟨x, hx, rfl⟩ := List.mem_map.mp he
          obtain ⟨a1, a2⟩ := h5 x hx
          split
          · exact ⟨List.mem_append_left _ a1, by simp only; omega⟩
          · exact ⟨List.mem_append_left _ a1, a2⟩
        · rcases List.mem_append.mp he with he | he
          · exact ⟨List.mem_append_left _ (h5 e he).1, (h5 e he).2⟩
          · rw [List.mem_singleton.mp he]
            exact ⟨by simp, by simp only; omega⟩
  exact key _ ps rfl
def tieN (a c : Nat) : LP := if idx a < idx c then (a, c) else (c, a)
def prv (w : List Nat) (k : Nat) : Nat := if k = 0 then w.getLast?.getD 0 else w.getD (k - 1) 0
def tps (w : List Nat) : List LP := (List.range w.length).map fun k => tieN (prv w k) (inv (w.getD k 0))
def ties (rs : List (List Nat)) : List (LP × Int) := tally (rs.flatMap tps)
def leaves (sd : List Nat) (p : LP) : Bool := decide (p.1 ∈ sd) != decide (p.2 ∈ sd)
theorem leaves_tie (sd : List Nat) (a c : Nat) : leaves sd (tieN a c) = (decide (a ∈ sd) != decide (c ∈ sd)) := by
  unfold leaves tieN; split
  · rfl
  · exact bne_comm
def con : List Nat → List LP
  | a :: b :: r => (a, b) :: con (b :: r)
  | _ => []
theorem con_snoc : ∀ (u : List Nat) (l h : Nat), con (u ++ [l] ++ [h]) = con (u ++ [l]) ++ [(l, h)]
  | [], l, h => rfl
  | [x], l, h => rfl
  | x :: y :: u, l, h => by
    have ih := con_snoc (y :: u) l h
    simp only [List.cons_append] at ih ⊢
    unfold con
    rw [ih]; rfl
theorem lv_con (sd : List Nat) : ∀ (u : List Nat) (y : Nat), lv sd u y = (con (u ++ [y])).countP fun p => lve sd p.1 p.2
  | [], y => rfl
  | [x], y => by
    show (lve sd x y).toNat + 0 = List.countP _ [(x, y)]
    rw [List.countP_cons, List.countP_nil]
    cases lve sd x y <;> rfl
  | x :: z :: r, y => by
    have ih := lv_con sd (z :: r) y
    show (lve sd x z).toNat + lv sd (z :: r) y = _
    rw [ih]
    show _ = List.countP _ ((x, z) :: con (z :: r ++ [y]))
    rw [List.countP_cons]
    cases lve sd x z <;> simp <;> omega
theorem con_get : ∀ (u : List Nat) (k : Nat), k + 1 < u.length → (con u)[k]? = some (u.getD k 0, u.getD (k + 1) 0)
  | [], k, h => by simp at h
  | [x], k, h => by simp at h
  | x :: y :: u, 0, h => rfl
  | x :: y :: u, k + 1, h => by
    show (con (y :: u))[k]? = _
    rw [con_get (y :: u) k (by simpa using h)]; rfl
theorem con_len : ∀ (u : List Nat), (con u).length = u.length - 1
  | [] => rfl
  | [_] => rfl
  | x :: y :: u => by
    show (con (y :: u)).length + 1 = _
    rw [con_len (y :: u)]; simp
theorem tps_con {w : List Nat} {l : Nat} (h : w.getLast? = some l) : tps w = (con (l :: w)).map fun p => tieN p.1 (inv p.2) := by
  unfold tps
  apply List.ext_getElem?
  intro k
  rw [List.getElem?_map, List.getElem?_map]
  by_cases hk : k < w.length
  · rw [List.getElem?_range hk, con_get (l :: w) k (by simpa using hk)]
    show some _ = some _
    congr 2
    unfold prv
    cases k with
    | zero => rw [h]; rfl
    | succ k => rfl
  · rw [List.getElem?_eq_none (by rw [List.length_range]; omega), List.getElem?_eq_none (by rw [con_len]; simp; omega)]; rfl
theorem tps_leave (sd : List Nat) {w : List Nat} {x : Nat} (hx : w.head? = some x) : (tps w).countP (leaves sd) = lv sd w x := by
  rcases List.eq_nil_or_concat w with rfl | ⟨s, l, rfl⟩
  · cases hx
  rw [List.concat_eq_append] at *
  rw [tps_con (l := l) (by simp), List.countP_map, lv_con]
  have e : (leaves sd ∘ fun p : LP => tieN p.1 (inv p.2)) = fun p => lve sd p.1 p.2 := by
    funext p
    exact leaves_tie sd p.1 (inv p.2)
  rw [e, con_snoc, List.countP_append]
  have : con (l :: (s ++ [l])) = (l, x) :: con (s ++ [l]) := by
    cases s with
    | nil => cases hx; rfl
    | cons y s => cases hx; rfl
  rw [this, List.countP_cons]
  simp [List.countP_cons]
/-- the length of a ring behind a change -/
theorem ring_chg_len {n : Int} (h : 1 ≤ n) (h' : n ≤ 4) {b : Nat} {sd : List Nat} (g : Chg n b sd) {w : List Nat} (hw : ∀ c ∈ w, c ∈ Ln n) (hc : CR w) : (ring (rt (chg n b sd) w)).length + (w.count b + w.count (inv b)) = w.length + (tps w).countP (leaves sd) := by
  have hb := Ln_lw n b g.bn
  cases w with
  | nil => rw [rt_nil, ring_nil]; rfl
  | cons x r =>
    have hlw : Lw (x :: r) := fun c hc => Ln_lw n c (hw c hc)
    have e1 : rt (chg n b sd) (x :: r) = lay ((x :: r).flatMap (chgL b sd)) := by
      unfold rt F
      congr 1
      have : ∀ u : List Nat, (∀ c ∈ u, c ∈ Ln n) → u.flatMap (sub (chg n b sd)) = u.flatMap (chgL b sd) := by
        intro u
        induction u with
        | nil => intro _; rfl
        | cons y u ih =>
          intro hu
          rw [List.flatMap_cons, List.flatMap_cons, sub_chg h h' hb sd (hu y (by simp)), ih fun c hc => hu c (by simp [hc])]
      exact this _ hw
    rw [e1, (ring_chg hb g.own g.con hlw hc rfl).1, rg_len, vj_len hb, tps_leave sd rfl]
def rowLen (rs : List (List Nat)) : Nat := (rs.map List.length).sum
def rowCount (rs : List (List Nat)) (b : Nat) : Nat := (rs.map fun w => w.count b + w.count (inv b)).sum
/-- a row of rings of n -/
def RowOk (n : Int) (rs : List (List Nat)) : Prop := ∀ w ∈ rs, (∀ c ∈ w, c ∈ Ln n) ∧ CR w ∧ ring w = w
def rowT (T : List (List Nat)) (rs : List (List Nat)) : List (List Nat) := rs.map fun w => ring (rt T w)
theorem row_chg_len {n : Int} (h : 1 ≤ n) (h' : n ≤ 4) {b : Nat} {sd : List Nat} (g : Chg n b sd) : ∀ {rs : List (List Nat)}, RowOk n rs → rowLen (rowT (chg n b sd) rs) + rowCount rs b = rowLen rs + (rs.flatMap tps).countP (leaves sd)
  | [], _ => rfl
  | w :: rs, hr => by
    have ih := row_chg_len h h' g (rs := rs) fun x hx => hr x (by simp [hx])
    obtain ⟨h1, h2, _⟩ := hr w (by simp)
    have := ring_chg_len h h' g h1 h2
    unfold rowLen rowCount rowT at *
    rw [List.flatMap_cons, List.countP_append]
    simp only [List.map_cons, List.sum_cons]
    omega
theorem ties_leave (sd : List Nat) (rs : List (List Nat)) : asum (leaves sd) (ties rs) = (rs.flatMap tps).countP (leaves sd) := (tally_ok _).2.2.1 _
end Z
namespace Z
open PySem PySem.Spec L2
theorem getD_mem {w : List Nat} {k : Nat} (h : k < w.length) : w.getD k 0 ∈ w := by
  rw [List.getD_eq_getElem?_getD, List.getElem?_eq_getElem h]; exact List.getElem_mem h
theorem prv_mem {w : List Nat} {k : Nat} (h : k < w.length) : prv w k ∈ w := by
  unfold prv
  split
  · rcases List.eq_nil_or_concat w with rfl | ⟨s, l, rfl⟩
    · simp at h
    · simp
  · exact getD_mem (by omega)
theorem RowOk.nil (n : Int) : RowOk n [] := fun w h => by cases h
theorem RowOk.lw {n : Int} {rs : List (List Nat)} (h : RowOk n rs) : ∀ w ∈ rs, Lw w := fun w hw c hc => Ln_lw n c ((h w hw).1 c hc)
theorem RowOk.tl {n : Int} {rs : List (List Nat)} (h : RowOk n rs) : Tl rs := h.lw
theorem RowOk.app {n : Int} {rs ss : List (List Nat)} (h : RowOk n rs) (k : RowOk n ss) : RowOk n (rs ++ ss) := fun w hw => (List.mem_append.mp hw).elim (h w) (k w)
theorem RowOk.sub {n : Int} {rs ss : List (List Nat)} (h : RowOk n rs) (k : ∀ w ∈ ss, w ∈ rs) : RowOk n ss := fun w hw => h w (k w hw)
theorem ring_ok {n : Int} {w : List Nat} (hw : ∀ c ∈ w, c ∈ Ln n) (hp : Plain w) : (∀ c ∈ ring w, c ∈ Ln n) ∧ CR (ring w) ∧ ring (ring w) = ring w := by
  have hl : Lw w := fun c hc => Ln_lw n c (hw c hc)
  refine ⟨fun c hc => ?_, cr_ring hl hp, ring_ring hl hp⟩
  obtain ⟨u, v, e1, e2⟩ := (rg_ok (mid w)).1
  have : c ∈ mid w := by
    have hc : c ∈ rg (mid w) := hc
    rw [e2] at hc; rw [e1]
    rcases List.mem_append.mp hc with h | h
    · exact List.mem_append_right _ h
    · exact List.mem_append_left _ h
  obtain ⟨p, e, _, _⟩ := wound _ rfl hl hp
  exact hw c (by rw [e]; simp [this])
theorem RowOk.one {n : Int} {w : List Nat} (hw : ∀ c ∈ w, c ∈ Ln n) (hp : Plain w) : RowOk n [ring w] := fun v hv => by
  rw [List.mem_singleton.mp hv]; exact ring_ok hw hp
theorem rowT_ok {n : Int} (h : 1 ≤ n) (h' : n ≤ 4) {T : List (List Nat)} (hT : Wn n T) (rs : List (List Nat)) : RowOk n (rowT T rs) := fun v hv => by
  obtain ⟨w, _, rfl⟩ := List.mem_map.mp hv
  exact ring_ok (Ln_rt h h' hT w) (plain_lay _)
theorem rowLen_cons (w : List Nat) (rs : List (List Nat)) : rowLen (w :: rs) = w.length + rowLen rs := by unfold rowLen; rw [List.map_cons, List.sum_cons]
/-- by the letter alone, or all but its contrary, rings stay -/
theorem rowT_same {n : Int} (h : 1 ≤ n) (h' : n ≤ 4) {rs : List (List Nat)} (hr : RowOk n rs) : rowT (same n) rs = rs := by
  unfold rowT
  have : rs.map (fun w => ring (rt (same n) w)) = rs.map id := List.map_congr_left fun w hw => by
    obtain ⟨h1, h2, h3⟩ := hr w hw
    unfold rt
    rw [F_same h h' h1, lay_plain h2.plain]; exact h3
  rw [this, List.map_id]
end Z
namespace Z
open PySem PySem.Spec L2
def lastR (n : Int) (rs : List (List Nat)) (ss : List Stp) : List (List Nat) := ss.foldl (fun r s => rowT (stepT n s) r) rs
theorem lastR_snoc (n : Int) (rs : List (List Nat)) (ss : List Stp) (s : Stp) : lastR n rs (ss ++ [s]) = rowT (stepT n s) (lastR n rs ss) := by unfold lastR; rw [List.foldl_append]; rfl
theorem rowT_thn {T U rs : List (List Nat)} (hT : Tl T) (hU : Tl U) : rowT U (rowT T rs) = rowT (thn T U) rs := by
  unfold rowT
  rw [List.map_map]
  refine List.map_congr_left fun w _ => ?_
  show ring (rt U (ring (rt T w))) = ring (rt (thn T U) w)
  rw [rt_thn hT hU, ring_rt hU (lw_rt hT w) (plain_lay _)]
theorem lastR_ok {n : Int} (h : 1 ≤ n) (h' : n ≤ 4) {rs : List (List Nat)} (hr : RowOk n rs) {ss : List Stp} (hs : ∀ s ∈ ss, StepOk n s) : RowOk n (lastR n rs ss) := by
  rcases List.eq_nil_or_concat ss with rfl | ⟨r, s, rfl⟩
  · exact hr
  · rw [List.concat_eq_append] at hs ⊢
    rw [lastR_snoc]
    exact rowT_ok h h' (wn_step h h' (hs s (by simp))) _
theorem lastR_road {n : Int} (h : 1 ≤ n) (h' : n ≤ 4) {rs : List (List Nat)} (hr : RowOk n rs) : ∀ {ss : List Stp}, (∀ s ∈ ss, StepOk n s) → rowT (roadT n ss) rs = lastR n rs ss := by
  have key : ∀ (k : Nat) (ss : List Stp), ss.length = k → (∀ s ∈ ss, StepOk n s) → rowT (roadT n ss) rs = lastR n rs ss := by
    intro k
    induction k with
    | zero => intro ss e _; rw [List.length_eq_zero_iff] at e; subst e; exact rowT_same h h' hr
    | succ k ih =>
      intro ss e hs
      rcases List.eq_nil_or_concat ss with rfl | ⟨r, s, rfl⟩
      · simp at e
      rw [List.concat_eq_append] at e hs ⊢
      have hr2 : ∀ s ∈ r, StepOk n s := fun x hx => hs x (by simp [hx])
      rw [lastR_snoc, roadT_snoc, ← ih r (by simpa using e) hr2, rowT_thn (wn_road h h' hr2).tl (wn_step h h' (hs s (by simp))).tl]
  exact fun {ss} hs => key _ ss rfl hs
end Z
namespace Z
open PySem PySem.Spec PyProof.Rows L2 TL
def MS.bad : MS := fun _ => .bad
section
variable {X : Cx} {W : WX} {K : Frag} {pos : Pos}
/-- what is not reached -/
theorem sm_dead {st : Stmt} : SM X W st MS.bad := fun G => ⟨fun pins s σ H D I q => by
  obtain ⟨F, ρ, r, p⟩ := q
  exact p.elim⟩
/-- a try whose body raises nothing -/
theorem sm_tryN {body : List Stmt} {h : ExceptHandler} {hs : List ExceptHandler} {m : MS} (hb : BM X.nox W body m) : SM X W (.Try body (h :: hs) [] [] pos) m := fun G => ps_try_thru0 (hb G)
def M.useB (o : D → D → Option Va) (a b : Va) : M Bool := M.ofO fun ρ => (a.get ρ).bind fun x => (b.get ρ).bind fun y => (o x y).bind fun s => match s with
  | .sh (.bl k) => some k
  | _ => none
def M.chain (o o' : D → D → Option Va) (ma mb mc : M Va) : M Va := ma.fz.bind fun a => mb.fz.bind fun b => (M.useB o a b).bind fun k => if k = true then mc.fz.bind fun c => M.use2 o' b c else M.cst (.bl false)
theorem em_chain {a b c : Expr} {op op' : CmpOp} {o o' : D → D → Option Va} {ma mb mc : M Va} (h1 : BO X (compareOp op) o) (h2 : BO X (compareOp op') o') (ha : EM X W a ma) (hb : EM X W b mb) (hc : EM X W c mc) (hm : lastMarks [op, op'] [b, c] = false := by with_unfolding_all rfl) : EM X W (.Compare a [op, op'] [b, c] pos) (M.chain o o' ma mb mc) := by
  obtain ⟨r, ho, hs⟩ := h1
  obtain ⟨r', ho', hs'⟩ := h2
  refine fun G => pe_weak (pe_chain ho ho' (ha.fz G) (hb.fz G) (hc.fz G) hm) fun σ H Q ⟨F, ρ, rp, p⟩ => ⟨F, ρ, rp, Post.bind p fun x F1 H1 ρ1 s e1 l1 r1 q1 p1 => ⟨F1, ρ1, r1, Post.bind p1 fun y F2 H2 ρ2 t e2 l2 r2 q2 p2 => ?_⟩⟩
  have q1' := q1.mono (H' := H2) (ρ' := ρ2) l2.r (fz_inv e1)
  have nt := fz_inv e2
  unfold M.useB M.ofO M.bind at p2
  simp only at p2
  cases gx : s.get ρ2 with
  | none => rw [gx] at p2; exact p2.elim
  | some dx =>
    cases gy : t.get ρ2 with
    | none => rw [gx, gy] at p2; exact p2.elim
    | some dy =>
      rw [gx, gy] at p2
      simp only [Option.bind_some] at p2
      cases eo : o dx dy with
      | none => rw [eo] at p2; exact p2.elim
      | some sv =>
        rw [eo] at p2
        simp only [Option.bind_some] at p2
        split at p2
        · rename_i k ek
          split at ek
          · rename_i k'
            cases ek
            refine hs G F2 H2 ρ2 σ x y dx dy _ _ r2 (r2.view q1' gx) (r2.view q2 gy) eo fun v F' H' l r3 q3 => ?_
            simp only [ResV, Rp] at q3
            subst q3
            refine ⟨k, rfl, ?_⟩
            have p3 := Post.le l p2
            simp only [R.bind] at p3
            cases k with
            | true =>
              rw [if_pos rfl] at p3 ⊢
              exact ⟨F', ρ2, r3, Post.bind p3 fun w F4 H4 ρ4 c e4 l4 r4 q4 p4 => use2_post hs' r4 (ResV.mono (H' := H4) (ρ' := ρ4) (l.trans l4).r nt q2) q4 p4⟩
            | false =>
              rw [if_neg Bool.false_ne_true] at p3 ⊢
              exact p3 _ F' H' (Le.refl F') r3 (by simp only [ResV, Rp])
          · cases ek
        · exact p2.elim
end
section
variable {X : Cx} {W : WX} {K : Frag} {F : Hp} {pos : Pos}
def splitD (a b : List Nat) : List (List Nat) := (Txt.split (S a) (S b)).map fun z => z.cps.toList
def opSplit : D → List D → Option Va
  | .str a, [.str b] => if b ≠ [] ∧ a.length + 2 ≤ big then some (.nw (.lst ((splitD a b).map .str))) else none
  | _, _ => none
theorem rps_ofStrs : ∀ (ys : List Str), Rps K F ((ys.map fun z => z.cps.toList).map .str) (ys.map V.str)
  | [] => by simp only [List.map_nil, Rps]
  | y :: ys => by
    simp only [List.map_cons, Rps]
    exact ⟨_, _, rfl, by simp only [Rp]; rw [S_cps], rps_ofStrs ys⟩
theorem mo_split : MO X "str.split" opSplit := ⟨_, mt_split, fun G F H ρ σ x xs dx ds s Q r vx vl e k => by
  unfold opSplit at e
  split at e
  · rename_i a b
    split at e
    · rename_i z
      cases e
      obtain ⟨w, rfl, w1⟩ := vwl1 vl
      refine ⟨S a, S b, vw_str vx, by rw [vw_str w1], ?_, ?_, fun p n => let ⟨r', q'⟩ := new_lst r (rps_ofStrs _) n; k _ F _ (Le.refl F) r' q'⟩
      · have : (S b).length ≠ 0 := by rw [S_len]; exact fun h => z.1 (List.eq_nil_of_length_eq_zero h)
        simpa using this
      · rw [S_len]; have := big_le z.2; omega
    · cases e
  · cases e⟩
theorem opSplit_ok {a b : List Nat} (h : b ≠ []) (hl : a.length + 2 ≤ big) : opSplit (.str a) [.str b] = some (.nw (.lst ((splitD a b).map .str))) := by unfold opSplit; exact if_pos ⟨h, hl⟩
theorem tl_S (p : List Nat) : tl (S p) = p := S_toList p
/-- what was joined, split -/
theorem splitD_join {c : Nat} (hc : c < 256) {ps : List (List Nat)} (hn : ps ≠ []) (hp : ∀ p ∈ ps, c ∉ p) {a : List Nat} (ha : S a = Txt.join (S [c]) (ps.map S)) : splitD a [c] = ps := by
  unfold splitD
  rw [ha, split_join (s := c) (S := []) (tl_S [c]) (by simp [Z.S, hc]) (fun e => hn (List.map_eq_nil_iff.mp e)) fun p h => ?_, List.map_map]
  · have : ps.map ((fun z : Str => z.cps.toList) ∘ S) = ps.map id := List.map_congr_left fun p _ => S_toList p
    rw [this, List.map_id]
  · obtain ⟨q, hq, rfl⟩ := List.mem_map.mp h
    rw [tl_S]; exact hp q hq
end
section
variable {ρ : Ev} {Q : Va → Ev → Prop} {x y : D} {a b : Va} {ma mb mc : M Va} {o o' : D → D → Option Va}
theorem we_chain (h : WE ma ρ fun a ρ1 => WE mb ρ1 fun b ρ2 => ∃ x y k, a.fz.get ρ2 = some x ∧ b.fz.get ρ2 = some y ∧ o x y = some (.sh (.bl k)) ∧ (k = true → WE mc ρ2 fun c ρ3 => WE (M.use2 o' b.fz c.fz) ρ3 Q) ∧ (k = false → Q (.sh (.bl false)) ρ2)) : WE (M.chain o o' ma mb mc) ρ Q :=
  we_bind (we_fz (R.wp_mono h fun a ρ1 h1 => we_bind (we_fz (R.wp_mono h1 fun b ρ2 ⟨x, y, k, e1, e2, e3, h2, h3⟩ => by
    refine we_bind (Q := Q) (m := M.useB o a.fz b.fz) ?_
    unfold M.useB
    refine we_ofO (c := k) (by rw [e1, e2]; simp only [Option.bind_some, e3]) ?_
    cases k with
    | true => rw [if_pos rfl]; exact we_bind (we_fz (h2 rfl))
    | false => rw [if_neg Bool.false_ne_true]; exact ⟨h3 rfl⟩))))
end
end Z
namespace Z
open PySem PySem.Spec L2
theorem opJoin_any {a : List Nat} {us : List (List Nat)} (h : (us.map List.length).sum + us.length * a.length ≤ big) : opJoin (.str a) [.lst (us.map .str)] = some (.sh (.str (joinD a us))) := by
  unfold opJoin
  simp only [allT_strs, Option.bind_some]
  rw [if_pos h]
theorem plain_get : ∀ {w : List Nat} {i a b : Nat}, Plain w → w[i]? = some a → w[i + 1]? = some b → a ≠ inv b
  | [], i, a, b, _, h, _ => by simp at h
  | [x], i, a, b, _, _, h => by simp at h
  | x :: y :: w, 0, a, b, hp, h1, h2 => by
    cases h1; cases h2; exact hp.1
  | x :: y :: w, i + 1, a, b, hp, h1, h2 => plain_get (w := y :: w) hp.2 (by simpa using h1) (by simpa using h2)
theorem split_joinD {c : Nat} (hc : c < 256) {ps : List (List Nat)} (hn : ps ≠ []) (hp : ∀ p ∈ ps, c ∉ p) : splitD (joinD [c] ps) [c] = ps :=
  splitD_join hc hn hp ((join_S [c] ps).symm.trans (TL.join_eq _ _).symm)
end Z
namespace Z
open PySem PySem.Spec L2
theorem Ln_mono {n m : Int} (h : 1 ≤ n) (hnm : n ≤ m) (h' : m ≤ 4) {c : Nat} (hc : c ∈ Ln n) : c ∈ Ln m := by
  have hn : n = 1 ∨ n = 2 ∨ n = 3 ∨ n = 4 := by omega
  have hm : m = 1 ∨ m = 2 ∨ m = 3 ∨ m = 4 := by omega
  rcases hn with rfl | rfl | rfl | rfl <;> rcases hm with rfl | rfl | rfl | rfl <;> first | exact hc | (exfalso; omega) | (revert hc; revert c; decide)
theorem RowOk.mono {n m : Int} (h : 1 ≤ n) (hnm : n ≤ m) (h' : m ≤ 4) {rs : List (List Nat)} (hr : RowOk n rs) : RowOk m rs := fun w hw => ⟨fun c hc => Ln_mono h hnm h' ((hr w hw).1 c hc), (hr w hw).2⟩
theorem RowOk.none (n : Int) : RowOk n [[]] := fun w hw => by
  rw [List.mem_singleton.mp hw]
  exact ⟨(fun c hc => nomatch hc), (show Plain ([] ++ []) from trivial), ring_nil⟩
end Z
namespace Z
def sumL (l : List Nat) (f : Nat → Int) : Int := (l.map f).sum
theorem sumL_nil (f : Nat → Int) : sumL [] f = 0 := rfl
theorem sumL_cons (a : Nat) (l : List Nat) (f : Nat → Int) : sumL (a :: l) f = f a + sumL l f := by unfold sumL; rw [List.map_cons, List.sum_cons]
theorem sumL_add (l : List Nat) (f g : Nat → Int) : sumL l (fun x => f x + g x) = sumL l f + sumL l g := by
  induction l with
  | nil => rfl
  | cons a l ih => rw [sumL_cons, sumL_cons, sumL_cons, ih]; omega
theorem sumL_sub (l : List Nat) (f g : Nat → Int) : sumL l (fun x => f x - g x) = sumL l f - sumL l g := by
  induction l with
  | nil => rfl
  | cons a l ih => rw [sumL_cons, sumL_cons, sumL_cons, ih]; omega
theorem sumL_congr {l : List Nat} {f g : Nat → Int} (h : ∀ x ∈ l, f x = g x) : sumL l f = sumL l g := by
  unfold sumL; rw [List.map_congr_left h]
theorem sumL_zero (l : List Nat) : sumL l (fun _ => 0) = 0 := by
  induction l with
  | nil => rfl
  | cons a l ih => rw [sumL_cons, ih]; rfl
theorem sumL_swap (l m : List Nat) (f : Nat → Nat → Int) : sumL l (fun a => sumL m (f a)) = sumL m (fun b => sumL l fun a => f a b) := by
  induction l with
  | nil => rw [sumL_nil]; exact (sumL_zero m).symm
  | cons a l ih =>
    rw [sumL_cons, ih, ← sumL_add]
    exact sumL_congr fun b _ => by rw [sumL_cons]
theorem sumL_split (l : List Nat) (p : Nat → Bool) (f : Nat → Int) : sumL l f = sumL (l.filter p) f + sumL (l.filter fun x => !p x) f := by
  induction l with
  | nil => rfl
  | cons a l ih =>
    rw [sumL_cons, List.filter_cons, List.filter_cons, ih]
    cases p a
    · simp only [Bool.false_eq_true, if_false, Bool.not_false, if_true]; rw [sumL_cons]; omega
    · simp only [Bool.not_true, Bool.false_eq_true, if_false, if_true]; rw [sumL_cons]; omega
theorem sumL_one {l : List Nat} {t : Nat} (d : Int) (nd : l.Nodup) (h : t ∈ l) : sumL l (fun b => if b = t then d else 0) = d := by
  induction l with
  | nil => cases h
  | cons a l ih =>
    have n := List.nodup_cons.mp nd
    rw [sumL_cons]
    by_cases e : a = t
    · subst e
      have : sumL l (fun b => if b = a then d else 0) = sumL l fun _ => 0 := sumL_congr fun x hx => if_neg fun (z : x = a) => n.1 (z ▸ hx)
      rw [if_pos rfl, this, sumL_zero, Int.add_zero]
    · rw [if_neg e, Int.zero_add]
      exact ih n.2 ((List.mem_cons.mp h).resolve_left fun z => e z.symm)
theorem sumL_nn {l : List Nat} {f : Nat → Int} (h : ∀ x ∈ l, 0 ≤ f x) : 0 ≤ sumL l f := by
  induction l with
  | nil => exact Int.le_refl 0
  | cons a l ih =>
    rw [sumL_cons]
    have := h a (by simp)
    have := ih fun x hx => h x (by simp [hx])
    omega
theorem sumL_nn_zero {l : List Nat} {f : Nat → Int} (h : ∀ x ∈ l, 0 ≤ f x) (z : sumL l f = 0) : ∀ x ∈ l, f x = 0 := by
  induction l with
  | nil => intro x hx; cases hx
  | cons a l ih =>
    rw [sumL_cons] at z
    have h1 := h a (by simp)
    have h2 : ∀ x ∈ l, 0 ≤ f x := fun x hx => h x (by simp [hx])
    have h3 := sumL_nn h2
    intro x hx
    rcases List.mem_cons.mp hx with rfl | hx
    · omega
    · exact ih h2 (by omega) x hx
def capT (T : List (LP × Int)) (a b : Nat) : Int := (T.map fun e => if e.1 = (a, b) ∨ e.1 = (b, a) then e.2 else 0).sum
def rmR (R : List (LP × Int)) (a b : Nat) : Int := (aget R (a, b)).getD 0
theorem cap_nil (a b : Nat) : capT [] a b = 0 := rfl
theorem cap_cons (e : LP × Int) (T : List (LP × Int)) (a b : Nat) : capT (e :: T) a b = (if e.1 = (a, b) ∨ e.1 = (b, a) then e.2 else 0) + capT T a b := by unfold capT; rw [List.map_cons, List.sum_cons]
theorem cap_app (T U : List (LP × Int)) (a b : Nat) : capT (T ++ U) a b = capT T a b + capT U a b := by unfold capT; rw [List.map_append, List.sum_append]
theorem cap_comm (T : List (LP × Int)) (a b : Nat) : capT T a b = capT T b a := by
  unfold capT
  congr 1
  refine List.map_congr_left fun e _ => ?_
  by_cases h : e.1 = (a, b) ∨ e.1 = (b, a)
  · rw [if_pos h, if_pos h.symm]
  · rw [if_neg h, if_neg fun z => h z.symm]
/-- ties between letters of L -/
structure TiesOk (L : List Nat) (T : List (LP × Int)) : Prop where
  nk : Nk T
  ok : ∀ e ∈ T, e.1.1 ∈ L ∧ e.1.2 ∈ L ∧ idx e.1.1 < idx e.1.2 ∧ 1 ≤ e.2
theorem cap_nn {L : List Nat} {T : List (LP × Int)} (h : TiesOk L T) (a b : Nat) : 0 ≤ capT T a b := by
  have key : ∀ U : List (LP × Int), (∀ e ∈ U, 1 ≤ e.2) → 0 ≤ capT U a b := by
    intro U
    induction U with
    | nil => intro _; exact Int.le_refl 0
    | cons e U ih =>
      intro hu
      have h1 := hu e (by simp)
      have h2 := ih fun x hx => hu x (by simp [hx])
      rw [cap_cons]
      split <;> omega
  exact key T fun e he => (h.ok e he).2.2.2
def roomsOf (T : List (LP × Int)) : List (LP × Int) := T.foldl (fun R e => aput (aput R e.1 e.2) (e.1.2, e.1.1) e.2) []
theorem roomsOf_snoc (T : List (LP × Int)) (e : LP × Int) : roomsOf (T ++ [e]) = aput (aput (roomsOf T) e.1 e.2) (e.1.2, e.1.1) e.2 := by unfold roomsOf; rw [List.foldl_append]; rfl
theorem rm_put2 (R : List (LP × Int)) (x y : Nat) (u v : Int) (a b : Nat) : rmR (aput (aput R (x, y) u) (y, x) v) a b = if a = y ∧ b = x then v else if a = x ∧ b = y then u else rmR R a b := by
  unfold rmR
  rw [aget_put, aget_put]
  by_cases h1 : a = y ∧ b = x
  · rw [if_pos (by rw [h1.1, h1.2]), if_pos h1]; rfl
  · rw [if_neg (fun z => h1 ⟨congrArg Prod.fst z, congrArg Prod.snd z⟩), if_neg h1]
    by_cases h2 : a = x ∧ b = y
    · rw [if_pos (by rw [h2.1, h2.2]), if_pos h2]; rfl
    · rw [if_neg (fun z => h2 ⟨congrArg Prod.fst z, congrArg Prod.snd z⟩), if_neg h2]
theorem some_put2 (R : List (LP × Int)) (x y : Nat) (u v : Int) (a b : Nat) : (aget (aput (aput R (x, y) u) (y, x) v) (a, b)).isSome = ((decide (a = y ∧ b = x) || decide (a = x ∧ b = y)) || (aget R (a, b)).isSome) := by
  rw [aget_put, aget_put]
  by_cases h1 : a = y ∧ b = x
  · rw [if_pos (by rw [h1.1, h1.2]), decide_eq_true h1]; rfl
  · rw [if_neg (fun z => h1 ⟨congrArg Prod.fst z, congrArg Prod.snd z⟩), decide_eq_false h1]
    by_cases h2 : a = x ∧ b = y
    · rw [if_pos (by rw [h2.1, h2.2]), decide_eq_true h2]; rfl
    · rw [if_neg (fun z => h2 ⟨congrArg Prod.fst z, congrArg Prod.snd z⟩), decide_eq_false h2]; rfl
/-- rooms: either way there, for pairs -/
def Sy (R : List (LP × Int)) : Prop := ∀ a b, (aget R (a, b)).isSome = (aget R (b, a)).isSome
theorem Sy.put2 {R : List (LP × Int)} (h : Sy R) (x y : Nat) (u v : Int) : Sy (aput (aput R (x, y) u) (y, x) v) := fun a b => by
  rw [some_put2, some_put2, h a b]
  congr 1
  rw [Bool.or_comm]
  congr 1 <;> exact decide_eq_decide.mpr and_comm
theorem rooms_ok {L : List Nat} : ∀ {T : List (LP × Int)}, TiesOk L T → (∀ a b, rmR (roomsOf T) a b = capT T a b) ∧ Sy (roomsOf T) ∧ (roomsOf T).length ≤ 2 * T.length := by
  have key : ∀ (k : Nat) (T : List (LP × Int)), T.length = k → TiesOk L T → (∀ a b, rmR (roomsOf T) a b = capT T a b) ∧ Sy (roomsOf T) ∧ (roomsOf T).length ≤ 2 * T.length := by
    intro k
    induction k with
    | zero =>
      intro T e _
      rw [List.length_eq_zero_iff] at e
      subst e
      exact ⟨fun a b => rfl, fun a b => rfl, Nat.le_refl 0⟩
    | succ k ih =>
      intro T e h
      rcases List.eq_nil_or_concat T with rfl | ⟨U, e1, rfl⟩
      · simp at e
      rw [List.concat_eq_append] at e h ⊢
      have hU : TiesOk L U := ⟨by have := h.nk; unfold Nk at this ⊢; rw [List.map_append] at this; exact (List.nodup_append.mp this).1, fun x hx => h.ok x (by simp [hx])⟩
      obtain ⟨i1, i2, i3⟩ := ih U (by simpa using e) hU
      obtain ⟨⟨x, y⟩, v⟩ := e1
      obtain ⟨_, _, hlt, _⟩ := h.ok ((x, y), v) (by simp)
      have hlt : idx x < idx y := hlt
      have hnew : capT U x y = 0 := by
        have key : ∀ W : List (LP × Int), (∀ e ∈ W, e.1 ≠ (x, y) ∧ e.1 ≠ (y, x)) → capT W x y = 0 := by
          intro W
          induction W with
          | nil => intro _; rfl
          | cons w W ih2 =>
            intro hw
            rw [cap_cons, ih2 fun z hz => hw z (by simp [hz]), if_neg fun z => z.elim (hw w (by simp)).1 (hw w (by simp)).2]; rfl
        refine key U fun w hw => ⟨fun z => ?_, fun z => ?_⟩
        · have := h.nk
          unfold Nk at this
          rw [List.map_append] at this
          exact (List.nodup_append.mp this).2.2 w.1 (List.mem_map.mpr ⟨w, hw, rfl⟩) (x, y) (by simp) z
        · have := (hU.ok w hw).2.2.1
          rw [z] at this
          exact absurd this (by show ¬ idx y < idx x; omega)
      rw [roomsOf_snoc]
      refine ⟨fun a b => ?_, i2.put2 _ _ _ _, ?_⟩
      · rw [rm_put2, cap_app, cap_cons, cap_nil, i1 a b]
        by_cases h1 : a = y ∧ b = x
        · obtain ⟨rfl, rfl⟩ := h1
          rw [if_pos ⟨rfl, rfl⟩, if_pos (.inr rfl), cap_comm U, hnew]; omega
        · rw [if_neg h1]
          by_cases h2 : a = x ∧ b = y
          · obtain ⟨rfl, rfl⟩ := h2
            rw [if_pos ⟨rfl, rfl⟩, if_pos (.inl rfl), hnew]; omega
          · rw [if_neg h2, if_neg]
            · omega
            · rintro (z | z)
              · cases z; exact h2 ⟨rfl, rfl⟩
              · cases z; exact h1 ⟨rfl, rfl⟩
      · have q1 := aput_len (aput (roomsOf U) (x, y) v) (y, x) v
        have q2 := aput_len (roomsOf U) (x, y) v
        rw [List.length_append]
        simp only [List.length_cons, List.length_nil]
        show (aput (aput (roomsOf U) (x, y) v) (y, x) v).length ≤ _
        omega
  exact fun {T} h => key _ T rfl h
theorem leave_cap {L : List Nat} (nd : L.Nodup) (sd : List Nat) {T : List (LP × Int)} (h : TiesOk L T) : asum (leaves sd) T = sumL (L.filter fun a => decide (a ∈ sd)) fun a => sumL (L.filter fun b => !decide (b ∈ sd)) fun b => capT T a b := by
  have key : ∀ U : List (LP × Int), (∀ e ∈ U, e.1.1 ∈ L ∧ e.1.2 ∈ L ∧ e.1.1 ≠ e.1.2) → asum (leaves sd) U = sumL (L.filter fun a => decide (a ∈ sd)) fun a => sumL (L.filter fun b => !decide (b ∈ sd)) fun b => capT U a b := by
    intro U
    induction U with
    | nil =>
      intro _
      have : (fun a => sumL (L.filter fun b => !decide (b ∈ sd)) fun b => capT [] a b) = fun _ => 0 := by
        funext a; exact sumL_zero _
      rw [this, sumL_zero]; rfl
    | cons e U ih =>
      intro hu
      obtain ⟨hx, hy, hne⟩ := hu e (by simp)
      rw [asum_cons, ih fun z hz => hu z (by simp [hz])]
      obtain ⟨⟨x, y⟩, v⟩ := e
      have hx : x ∈ L := hx
      have hy : y ∈ L := hy
      have hne : x ≠ y := hne
      have e1 : (fun a => sumL (L.filter fun b => !decide (b ∈ sd)) fun b => capT (((x, y), v) :: U) a b) = fun a => sumL (L.filter fun b => !decide (b ∈ sd)) (fun b => if (x, y) = (a, b) ∨ (x, y) = (b, a) then v else 0) + sumL (L.filter fun b => !decide (b ∈ sd)) fun b => capT U a b := by
        funext a
        rw [← sumL_add]
        exact sumL_congr fun b _ => cap_cons _ _ _ _
      rw [e1, sumL_add]
      congr 1
      have nd1 := nd.filter (fun a => decide (a ∈ sd))
      have nd2 := nd.filter (fun a => !decide (a ∈ sd))
      have m1 : ∀ a, a ∈ L.filter (fun a => decide (a ∈ sd)) ↔ a ∈ L ∧ a ∈ sd := fun a => by simp
      have m2 : ∀ a, a ∈ L.filter (fun a => !decide (a ∈ sd)) ↔ a ∈ L ∧ a ∉ sd := fun a => by simp
      generalize L.filter (fun a => decide (a ∈ sd)) = L1 at *
      generalize L.filter (fun a => !decide (a ∈ sd)) = L2 at *
      have gen : ∀ p q : Nat, p ∈ L1 → q ∈ L2 → ((x, y) = (p, q) ∨ (x, y) = (q, p)) → v = sumL L1 fun a => sumL L2 fun b => if (x, y) = (a, b) ∨ (x, y) = (b, a) then v else 0 := by
        intro p q hp hq hpq
        have e2 : ∀ a ∈ L1, (sumL L2 fun b => if (x, y) = (a, b) ∨ (x, y) = (b, a) then v else 0) = if a = p then v else 0 := by
          intro a ha
          by_cases z : a = p
          · subst z
            rw [if_pos rfl]
            have : (sumL L2 fun b => if (x, y) = (a, b) ∨ (x, y) = (b, a) then v else 0) = sumL L2 fun b => if b = q then v else 0 := sumL_congr fun b hb => by
              by_cases w : b = q
              · subst w; rw [if_pos rfl, if_pos hpq]
              · rw [if_neg w, if_neg]
                rintro (u | u) <;> rcases hpq with k | k <;> cases u <;> cases k
                · exact w rfl
                · exact hne rfl
                · exact hne rfl
                · exact w rfl
            rw [this, sumL_one v nd2 hq]
          · rw [if_neg z]
            have : (sumL L2 fun b => if (x, y) = (a, b) ∨ (x, y) = (b, a) then v else 0) = sumL L2 fun b => 0 := sumL_congr fun b hb => by
              rw [if_neg]
              rintro (u | u) <;> rcases hpq with k | k <;> cases u <;> cases k
              · exact z rfl
              · exact ((m2 _).mp hq).2 ((m1 _).mp ha).2
              · exact ((m2 _).mp hq).2 ((m1 _).mp ha).2
              · exact z rfl
            rw [this, sumL_zero]
        rw [sumL_congr e2, sumL_one v nd1 hp]
      have zero : ¬ (leaves sd (x, y) = true) → 0 = sumL L1 fun a => sumL L2 fun b => if (x, y) = (a, b) ∨ (x, y) = (b, a) then v else 0 := by
        intro hl
        have e2 : ∀ a ∈ L1, (sumL L2 fun b => if (x, y) = (a, b) ∨ (x, y) = (b, a) then v else 0) = 0 := by
          intro a ha
          have : (sumL L2 fun b => if (x, y) = (a, b) ∨ (x, y) = (b, a) then v else 0) = sumL L2 fun b => 0 := sumL_congr fun b hb => by
            rw [if_neg]
            have ha := ((m1 _).mp ha).2
            have hb := ((m2 _).mp hb).2
            rintro (u | u) <;> cases u <;> exact hl (by unfold leaves; simp [ha, hb])
          rw [this, sumL_zero]
        rw [sumL_congr e2, sumL_zero]
      by_cases hl : leaves sd (x, y) = true
      · rw [if_pos hl]
        unfold leaves at hl
        by_cases z1 : x ∈ sd
        · by_cases z2 : y ∈ sd
          · simp [z1, z2] at hl
          · exact gen x y ((m1 x).mpr ⟨hx, z1⟩) ((m2 y).mpr ⟨hy, z2⟩) (.inl rfl)
        · by_cases z2 : y ∈ sd
          · exact gen y x ((m1 y).mpr ⟨hy, z2⟩) ((m2 x).mpr ⟨hx, z1⟩) (.inr rfl)
          · simp [z1, z2] at hl
      · rw [if_neg hl]; exact zero hl
  exact key T fun e he => by
    obtain ⟨h1, h2, h3, _⟩ := h.ok e he
    exact ⟨h1, h2, fun z => by rw [z] at h3; omega⟩
def netR (L : List Nat) (T R : List (LP × Int)) (x : Nat) : Int := sumL L fun b => capT T x b - rmR R x b
/-- rooms left over by a flow from s to t -/
structure FlowOk (L : List Nat) (T : List (LP × Int)) (s t : Nat) (R : List (LP × Int)) : Prop where
  nn : ∀ a b, 0 ≤ rmR R a b
  anti : ∀ a b, rmR R a b + rmR R b a = 2 * capT T a b
  cons : ∀ x ∈ L, x ≠ s → x ≠ t → netR L T R x = 0
  sy : Sy R
theorem flow_start {L : List Nat} {T : List (LP × Int)} {s t : Nat} (h : TiesOk L T) : FlowOk L T s t (roomsOf T) := by
  obtain ⟨h1, h2, _⟩ := rooms_ok h
  refine ⟨fun a b => by rw [h1]; exact cap_nn h a b, fun a b => by rw [h1, h1, cap_comm T b a]; omega, fun x _ _ _ => ?_, h2⟩
  unfold netR
  have : (sumL L fun b => capT T x b - rmR (roomsOf T) x b) = sumL L fun _ => 0 := sumL_congr fun b _ => by rw [h1]; omega
  rw [this, sumL_zero]
/-- a side's ties are as much as goes, and what room there is -/
theorem flow_cut {L : List Nat} (nd : L.Nodup) {T R : List (LP × Int)} {s t : Nat} (hT : TiesOk L T) (h : FlowOk L T s t R) (sd : List Nat) (hs : s ∈ sd) (hsL : s ∈ L) (ht : t ∉ sd) :
    asum (leaves sd) T = netR L T R s + sumL (L.filter fun a => decide (a ∈ sd)) fun a => sumL (L.filter fun b => !decide (b ∈ sd)) fun b => rmR R a b := by
  rw [leave_cap nd sd hT]
  have nd1 := nd.filter (fun a => decide (a ∈ sd))
  have m1 : ∀ a, a ∈ L.filter (fun a => decide (a ∈ sd)) ↔ a ∈ L ∧ a ∈ sd := fun a => by simp
  have sp := fun f => sumL_split L (fun a => decide (a ∈ sd)) f
  generalize L.filter (fun a => decide (a ∈ sd)) = L1 at *
  generalize L.filter (fun a => !decide (a ∈ sd)) = L2 at *
  have e1 : sumL L1 (netR L T R) = netR L T R s := by
    have : sumL L1 (netR L T R) = sumL L1 fun a => if a = s then netR L T R s else 0 := sumL_congr fun a ha => by
      by_cases z : a = s
      · rw [if_pos z, z]
      · rw [if_neg z]
        exact h.cons a ((m1 a).mp ha).1 z fun w => ht (w ▸ ((m1 a).mp ha).2)
    rw [this, sumL_one _ nd1 ((m1 s).mpr ⟨hsL, hs⟩)]
  have e2 : sumL L1 (netR L T R) = sumL L1 (fun a => sumL L1 fun b => capT T a b - rmR R a b) + sumL L1 (fun a => sumL L2 fun b => capT T a b - rmR R a b) := by
    rw [← sumL_add]
    exact sumL_congr fun a _ => sp _
  have e3 : sumL L1 (fun a => sumL L1 fun b => capT T a b - rmR R a b) = 0 := by
    have q1 := sumL_swap L1 L1 fun a b => capT T a b - rmR R a b
    have q2 : (sumL L1 fun b => sumL L1 fun a => capT T a b - rmR R a b) = sumL L1 fun b => 0 - sumL L1 fun a => capT T b a - rmR R b a := sumL_congr fun b _ => by
      rw [← sumL_zero L1, ← sumL_sub]
      refine sumL_congr fun a _ => ?_
      have := h.anti a b
      rw [cap_comm T b a]
      omega
    rw [q2, sumL_sub, sumL_zero] at q1
    omega
  have e4 : sumL L1 (fun a => sumL L2 fun b => capT T a b - rmR R a b) = sumL L1 (fun a => sumL L2 fun b => capT T a b) - sumL L1 (fun a => sumL L2 fun b => rmR R a b) := by
    rw [← sumL_sub]
    exact sumL_congr fun a _ => sumL_sub _ _ _
  omega
abbrev Ah := List (Nat × Option Nat)
def pa (A : Ah) (x : Nat) : Option (Option Nat) := (A.find? fun e => decide (e.1 = x)).map (·.2)
def ks (A : Ah) : List Nat := A.map (·.1)
inductive TreA (L : List Nat) (R : List (LP × Int)) (s : Nat) : Ah → Prop
  | root : TreA L R s [(s, none)]
  | snoc {A : Ah} {x p : Nat} : TreA L R s A → p ∈ ks A → x ∉ ks A → x ∈ L → 0 < rmR R p x → TreA L R s (A ++ [(x, some p)])
theorem ks_app (A B : Ah) : ks (A ++ B) = ks A ++ ks B := by unfold ks; rw [List.map_append]
theorem pa_none {A : Ah} {x : Nat} (h : x ∉ ks A) : pa A x = none := by
  unfold pa
  rw [List.find?_eq_none.mpr, Option.map_none]
  intro e he
  simp only [decide_eq_true_eq]
  exact fun z => h (z ▸ List.mem_map.mpr ⟨e, he, rfl⟩)
theorem pa_app {A : Ah} {x : Nat} {v : Option Nat} (B : Ah) (h : pa A x = some v) : pa (A ++ B) x = some v := by
  unfold pa at h ⊢
  rw [List.find?_append]
  cases q : A.find? fun e' => decide (e'.1 = x) with
  | some w => rw [q] at h; exact h
  | none => rw [q] at h; cases h
theorem pa_new {A : Ah} {x : Nat} {v : Option Nat} (h : x ∉ ks A) : pa (A ++ [(x, v)]) x = some v := by
  have := pa_none h
  unfold pa at this ⊢
  rw [List.find?_append]
  cases q : A.find? fun e' => decide (e'.1 = x) with
  | some w => rw [q] at this; cases this
  | none => simp
theorem TreA.nd {L : List Nat} {R : List (LP × Int)} {s : Nat} {A : Ah} (h : TreA L R s A) : (ks A).Nodup := by
  induction h with
  | root => exact List.nodup_cons.mpr ⟨List.not_mem_nil, List.nodup_nil⟩
  | snoc h1 h2 h3 _ _ ih =>
    rw [ks_app]
    refine List.nodup_append.mpr ⟨ih, by simp [ks], fun a ha b hb e => ?_⟩
    simp [ks] at hb
    subst hb; subst e; exact h3 ha
theorem TreA.root_mem {L : List Nat} {R : List (LP × Int)} {s : Nat} {A : Ah} (h : TreA L R s A) : s ∈ ks A := by
  induction h with
  | root => simp [ks]
  | snoc h1 h2 h3 _ _ ih => rw [ks_app]; exact List.mem_append_left _ ih
theorem TreA.sub {L : List Nat} {R : List (LP × Int)} {s : Nat} {A : Ah} (hs : s ∈ L) (h : TreA L R s A) : ∀ x ∈ ks A, x ∈ L := by
  induction h with
  | root => intro x hx; simp [ks] at hx; rw [hx]; exact hs
  | snoc h1 h2 h3 h4 _ ih =>
    intro x hx
    rw [ks_app] at hx
    rcases List.mem_append.mp hx with hx | hx
    · exact ih x hx
    · simp [ks] at hx; rw [hx]; exact h4
/-- the steps of the way, the last one first -/
inductive WayA (A : Ah) : Nat → List LP → Prop
  | stop {x : Nat} : pa A x = some none → WayA A x []
  | step {x p : Nat} {st : List LP} : pa A x = some (some p) → WayA A p st → WayA A x ((p, x) :: st)
theorem WayA.app {A : Ah} (B : Ah) {x : Nat} {st : List LP} (h : WayA A x st) : WayA (A ++ B) x st := by
  induction h with
  | stop q => exact .stop (pa_app B q)
  | step q _ ih => exact .step (pa_app B q) ih
inductive ChnA (s : Nat) : Nat → List LP → Prop
  | stop : ChnA s s []
  | step {x p : Nat} {st : List LP} : ChnA s p st → ChnA s x ((p, x) :: st)
theorem TreA.way {L : List Nat} {R : List (LP × Int)} {s : Nat} {A : Ah} (hs : s ∈ L) (h : TreA L R s A) : ∀ x ∈ ks A, ∃ st, WayA A x st ∧ ChnA s x st ∧ (∀ e ∈ st, 0 < rmR R e.1 e.2 ∧ e.1 ∈ ks A ∧ e.2 ∈ ks A ∧ e.1 ≠ e.2) ∧ (st.map (·.2)).Nodup ∧ st.length < A.length := by
  induction h with
  | root =>
    intro x hx
    simp [ks] at hx
    subst hx
    exact ⟨[], .stop (by unfold pa; simp), .stop, fun e he => (by cases he), List.nodup_nil, by simp⟩
  | @snoc A y p h1 h2 h3 h4 h5 ih =>
    intro x hx
    rw [ks_app] at hx
    have mono : ∀ z, z ∈ ks A → z ∈ ks (A ++ [(y, some p)]) := fun z hz => by rw [ks_app]; exact List.mem_append_left _ hz
    have ynew : y ∈ ks (A ++ [(y, some p)]) := by rw [ks_app]; simp [ks]
    rcases List.mem_append.mp hx with hx | hx
    · obtain ⟨st, w1, w2, w3, w4, w5⟩ := ih x hx
      exact ⟨st, w1.app _, w2, fun e he => ⟨(w3 e he).1, mono _ (w3 e he).2.1, mono _ (w3 e he).2.2.1, (w3 e he).2.2.2⟩, w4, by rw [List.length_append]; omega⟩
    · simp [ks] at hx
      subst hx
      obtain ⟨st, w1, w2, w3, w4, w5⟩ := ih p h2
      refine ⟨(p, x) :: st, .step (pa_new h3) (w1.app _), .step w2, fun e he => ?_, ?_, by rw [List.length_append]; simp only [List.length_cons, List.length_nil]; omega⟩
      · rcases List.mem_cons.mp he with rfl | he
        · exact ⟨h5, mono _ h2, ynew, fun z => h3 (by have z : p = x := z; rw [← z]; exact h2)⟩
        · exact ⟨(w3 e he).1, mono _ (w3 e he).2.1, mono _ (w3 e he).2.2.1, (w3 e he).2.2.2⟩
      · rw [List.map_cons]
        refine List.nodup_cons.mpr ⟨fun m => ?_, w4⟩
        obtain ⟨e, he, q⟩ := List.mem_map.mp m
        have q : e.2 = x := q
        exact h3 (q ▸ (w3 e he).2.2.1)
def pushR (d : Int) (R : List (LP × Int)) (e : LP) : List (LP × Int) := aput (aput R e (rmR R e.1 e.2 - d)) (e.2, e.1) (rmR (aput R e (rmR R e.1 e.2 - d)) e.2 e.1 + d)
def pushesR (d : Int) (R : List (LP × Int)) (st : List LP) : List (LP × Int) := st.foldl (pushR d) R
theorem rm_push (d : Int) (R : List (LP × Int)) {p x : Nat} (h : p ≠ x) (a b : Nat) : rmR (pushR d R (p, x)) a b = rmR R a b + (if a = x ∧ b = p then d else 0) - (if a = p ∧ b = x then d else 0) := by
  unfold pushR
  have e1 : rmR (aput R (p, x) (rmR R p x - d)) x p = rmR R x p := by
    unfold rmR; rw [aget_put, if_neg]
    exact fun z => h (congrArg Prod.snd z)
  show rmR (aput (aput R (p, x) (rmR R p x - d)) (x, p) (rmR (aput R (p, x) (rmR R p x - d)) x p + d)) a b = _
  rw [e1, rm_put2]
  by_cases h1 : a = x ∧ b = p
  · obtain ⟨rfl, rfl⟩ := h1
    rw [if_pos ⟨rfl, rfl⟩, if_pos ⟨rfl, rfl⟩, if_neg fun z => h z.1.symm]; omega
  · rw [if_neg h1, if_neg h1]
    by_cases h2 : a = p ∧ b = x
    · obtain ⟨rfl, rfl⟩ := h2
      rw [if_pos ⟨rfl, rfl⟩, if_pos ⟨rfl, rfl⟩]; omega
    · rw [if_neg h2, if_neg h2]; omega
theorem net_push (d : Int) {L : List Nat} (nd : L.Nodup) {T R : List (LP × Int)} {p x : Nat} (h : p ≠ x) (hp : p ∈ L) (hx : x ∈ L) (a : Nat) : netR L T (pushR d R (p, x)) a = netR L T R a + (if a = p then d else 0) - (if a = x then d else 0) := by
  unfold netR
  have e : (sumL L fun b => capT T a b - rmR (pushR d R (p, x)) a b) = sumL L (fun b => (capT T a b - rmR R a b) + ((if b = x then (if a = p then d else 0) else 0) - (if b = p then (if a = x then d else 0) else 0))) := sumL_congr fun b _ => by
    rw [rm_push d R h]
    by_cases z1 : a = x <;> by_cases z2 : b = p <;> by_cases z3 : a = p <;> by_cases z4 : b = x <;> simp [z1, z2, z3, z4] <;> omega
  rw [e, sumL_add, sumL_sub L (fun b => if b = x then (if a = p then d else 0) else 0), sumL_one _ nd hx, sumL_one _ nd hp]
  omega
theorem sy_push (d : Int) {R : List (LP × Int)} (h : Sy R) (e : LP) : Sy (pushR d R e) := h.put2 _ _ _ _
theorem pushes_ok (d : Int) (hd : 0 ≤ d) {L : List Nat} (nd : L.Nodup) {T : List (LP × Int)} {s : Nat} : ∀ {st : List LP} {cur : Nat} {R : List (LP × Int)}, ChnA s cur st → (∀ e ∈ st, e.1 ∈ L ∧ e.2 ∈ L ∧ e.1 ≠ e.2) → Sy R → (∀ a b, rmR R a b + rmR R b a = 2 * capT T a b) →
    Sy (pushesR d R st) ∧ (∀ a b, rmR (pushesR d R st) a b + rmR (pushesR d R st) b a = 2 * capT T a b) ∧ (∀ a, netR L T (pushesR d R st) a = netR L T R a + (if a = s then d else 0) - (if a = cur then d else 0)) ∧ ∀ a b, rmR R a b - d * (st.count (a, b) : Nat) ≤ rmR (pushesR d R st) a b
  | [], cur, R, hc, _, sy, an => by
    cases hc
    refine ⟨sy, an, fun a => ?_, fun a b => ?_⟩
    · show netR L T R a = _; omega
    · show rmR R a b - d * (0 : Nat) ≤ rmR R a b; simp
  | (p, x) :: st, cur, R, hc, hm, sy, an => by
    cases hc with
    | step hc =>
    obtain ⟨hp, hx, hne⟩ := hm (p, x) (by simp)
    have hp : p ∈ L := hp
    have hx : x ∈ L := hx
    have hne : p ≠ x := hne
    have an1 : ∀ a b, rmR (pushR d R (p, x)) a b + rmR (pushR d R (p, x)) b a = 2 * capT T a b := fun a b => by
      rw [rm_push d R hne, rm_push d R hne, ← an a b]
      have q1 : (if b = x ∧ a = p then d else 0) = if a = p ∧ b = x then d else 0 := by simp only [and_comm]
      have q2 : (if b = p ∧ a = x then d else 0) = if a = x ∧ b = p then d else 0 := by simp only [and_comm]
      rw [q1, q2]; omega
    obtain ⟨i1, i2, i3, i4⟩ := pushes_ok d hd nd hc (fun e he => hm e (by simp [he])) (sy_push d sy (p, x)) an1
    refine ⟨i1, i2, fun a => ?_, fun a b => ?_⟩
    · show netR L T (pushesR d (pushR d R (p, x)) st) a = _
      rw [i3, net_push d nd hne hp hx]
      omega
    · show _ ≤ rmR (pushesR d (pushR d R (p, x)) st) a b
      refine Int.le_trans ?_ (i4 a b)
      rw [rm_push d R hne, List.count_cons]
      by_cases z : a = p ∧ b = x
      · have : ((p, x) == (a, b)) = true := by rw [z.1, z.2]; exact beq_self_eq_true _
        rw [if_pos this, if_pos z]
        have h1 : (0 : Int) ≤ if a = x ∧ b = p then d else 0 := by split <;> omega
        have h2 : d * ((List.count (a, b) st + 1 : Nat) : Int) = d * (List.count (a, b) st : Nat) + d := by
          rw [Int.natCast_add, Int.mul_add]; simp
        omega
      · have : ((p, x) == (a, b)) = false := beq_eq_false_iff_ne.mpr fun w => z ⟨(congrArg Prod.fst w).symm, (congrArg Prod.snd w).symm⟩
        rw [this, if_neg z]
        have h1 : (0 : Int) ≤ if a = x ∧ b = p then d else 0 := by split <;> omega
        simp only [Bool.false_eq_true, if_false, Nat.add_zero]
        omega
theorem nodup_of_map {α β : Type} {f : α → β} : ∀ {l : List α}, (l.map f).Nodup → l.Nodup
  | [], _ => List.nodup_nil
  | a :: l, h => by
    have n := List.nodup_cons.mp h
    exact List.nodup_cons.mpr ⟨fun m => n.1 (List.mem_map.mpr ⟨a, m, rfl⟩), nodup_of_map n.2⟩
theorem flow_more {L : List Nat} (nd : L.Nodup) {T R : List (LP × Int)} {s t : Nat} {d : Int} {st : List LP} (h : FlowOk L T s t R) (hd : 1 ≤ d) (hst : s ≠ t) (hc : ChnA s t st) (hm : ∀ e ∈ st, e.1 ∈ L ∧ e.2 ∈ L ∧ e.1 ≠ e.2) (hn : (st.map (·.2)).Nodup) (hle : ∀ e ∈ st, d ≤ rmR R e.1 e.2) :
    FlowOk L T s t (pushesR d R st) ∧ netR L T (pushesR d R st) s = netR L T R s + d := by
  obtain ⟨i1, i2, i3, i4⟩ := pushes_ok d (by omega) nd hc hm h.sy h.anti
  refine ⟨⟨fun a b => ?_, i2, fun x hx h1 h2 => ?_, i1⟩, ?_⟩
  · refine Int.le_trans ?_ (i4 a b)
    by_cases z : (a, b) ∈ st
    · have h1 := hle _ z
      have h2 : st.Nodup := nodup_of_map hn
      rw [h2.count, if_pos z]
      have h1 : d ≤ rmR R a b := h1
      simp only [Int.natCast_one, Int.mul_one]
      omega
    · rw [List.count_eq_zero_of_not_mem z]
      have := h.nn a b
      simp only [Int.natCast_zero, Int.mul_zero]
      omega
  · rw [i3, h.cons x hx h1 h2, if_neg h1, if_neg h2]; omega
  · rw [i3, if_pos rfl, if_neg hst]; omega
/-- no more than leave the letter alone -/
theorem flow_bound {L : List Nat} (nd : L.Nodup) {T R : List (LP × Int)} {s t : Nat} (hT : TiesOk L T) (h : FlowOk L T s t R) (sd : List Nat) (hs : s ∈ sd) (hsL : s ∈ L) (ht : t ∉ sd) : netR L T R s ≤ asum (leaves sd) T := by
  rw [flow_cut nd hT h sd hs hsL ht]
  have := sumL_nn (l := L.filter fun a => decide (a ∈ sd)) (f := fun a => sumL (L.filter fun b => !decide (b ∈ sd)) fun b => rmR R a b) fun a _ => sumL_nn fun b _ => h.nn a b
  omega
/-- the letters reached are the least side -/
structure Least (L : List Nat) (T : List (LP × Int)) (s t : Nat) (sd : List Nat) : Prop where
  own : s ∈ sd
  con : t ∉ sd
  least : ∀ sd', s ∈ sd' → t ∉ sd' → asum (leaves sd) T ≤ asum (leaves sd') T
  few : ∀ sd', s ∈ sd' → t ∉ sd' → asum (leaves sd') T = asum (leaves sd) T → ∀ x ∈ sd, x ∈ sd'
theorem flow_least {L : List Nat} (nd : L.Nodup) {T R : List (LP × Int)} {s t : Nat} {A : Ah} (hT : TiesOk L T) (h : FlowOk L T s t R) (hsL : s ∈ L) (hA : TreA L R s A) (hcl : ∀ a ∈ ks A, ∀ b ∈ L, b ∉ ks A → rmR R a b ≤ 0) (ht : t ∉ ks A) : Least L T s t (ks A) ∧ asum (leaves (ks A)) T = netR L T R s := by
  have e : asum (leaves (ks A)) T = netR L T R s := by
    rw [flow_cut nd hT h (ks A) hA.root_mem hsL ht]
    have : (sumL (L.filter fun a => decide (a ∈ ks A)) fun a => sumL (L.filter fun b => !decide (b ∈ ks A)) fun b => rmR R a b) = sumL (L.filter fun a => decide (a ∈ ks A)) fun _ => 0 := sumL_congr fun a ha => by
      have ha : a ∈ L ∧ a ∈ ks A := by simpa using ha
      have : (sumL (L.filter fun b => !decide (b ∈ ks A)) fun b => rmR R a b) = sumL (L.filter fun b => !decide (b ∈ ks A)) fun _ => 0 := sumL_congr fun b hb => by
        have hb : b ∈ L ∧ b ∉ ks A := by simpa using hb
        have h1 := hcl a ha.2 b hb.1 hb.2
        have h2 := h.nn a b
        omega
      rw [this, sumL_zero]
    rw [this, sumL_zero]; omega
  refine ⟨⟨hA.root_mem, ht, fun sd' h1 h2 => by rw [e]; exact flow_bound nd hT h sd' h1 hsL h2, fun sd' h1 h2 h3 => ?_⟩, e⟩
  rw [e, flow_cut nd hT h sd' h1 hsL h2] at h3
  have hz : ∀ a ∈ L, a ∈ sd' → ∀ b ∈ L, b ∉ sd' → rmR R a b = 0 := by
    have z0 : (sumL (L.filter fun a => decide (a ∈ sd')) fun a => sumL (L.filter fun b => !decide (b ∈ sd')) fun b => rmR R a b) = 0 := by omega
    intro a ha ha' b hb hb'
    have z1 := sumL_nn_zero (fun a _ => sumL_nn fun b _ => h.nn a b) z0 a (by simp [ha, ha'])
    exact sumL_nn_zero (fun b _ => h.nn a b) z1 b (by simp [hb, hb'])
  clear hcl e h3 ht
  induction hA with
  | root => intro x hx; simp [ks] at hx; rw [hx]; exact h1
  | @snoc A y p k1 k2 k3 k4 k5 ih =>
    intro x hx
    rw [ks_app] at hx
    rcases List.mem_append.mp hx with hx | hx
    · exact ih x hx
    · simp [ks] at hx
      subst hx
      have hp := ih p k2
      have hpL := k1.sub hsL p k2
      by_cases z : x ∈ sd'
      · exact z
      · have := hz p hpL hp x k4 z
        omega
end Z
namespace Z
open PySem PySem.Spec L2
theorem rngD2_ok {i j : Int} (h : -4611686018427387904 ≤ i) (h' : i < 4611686018427387904) (k : -4611686018427387904 ≤ j) (k' : j < 4611686018427387904) : rngD2 [.int i, .int j] = some (rngL i j) := by
  unfold rngD2; exact if_pos (by rw [lim62_ok h h', lim62_ok k k']; rfl)
end Z
namespace Z
open PySem PySem.Spec L2
section
variable {X : Cx} {W : WX} {K : Frag} {G : Gh} {F F' H H' : Hp} {σ σ' : St} {ρ ρ' : Ev} {α β : Type} {pos : Pos}
def M.disp1 (mk mv : M Va) : M Va := fun ρ => (mk.fz ρ).nb fun a ρ1 => (mv ρ1).nb fun b ρ2 => (M.shr b ρ2).nb fun d ρ3 => match a.get ρ1 with
  | some kd => if (key1 kd).isSome then .ok (.nw (.dic [(kd, d)])) ρ3 else .bad
  | none => .bad
end
section
variable {ρ : Ev} {Q : Va → Ev → Prop} {mk mv : M Va}
theorem we_disp1 (h : WE mk ρ fun a ρ1 => ∃ kd, a.fz.get ρ1 = some kd ∧ (key1 kd).isSome = true ∧ WE mv ρ1 fun b ρ2 => WE (M.shr b) ρ2 fun d ρ3 => Q (.nw (.dic [(kd, d)])) ρ3) : WE (M.disp1 mk mv) ρ Q := by
  obtain ⟨a, ρ1, e, q⟩ := R.of_wp (we_fz (m := mk) (Q := fun a ρ1 => ∃ kd, a.get ρ1 = some kd ∧ (key1 kd).isSome = true ∧ WE mv ρ1 fun b ρ2 => WE (M.shr b) ρ2 fun d ρ3 => Q (.nw (.dic [(kd, d)])) ρ3) h)
  obtain ⟨kd, e1, e2, q⟩ := q
  obtain ⟨b, ρ2, e3, q⟩ := R.of_wp q
  obtain ⟨d, ρ3, e4, q⟩ := R.of_wp q
  unfold WE M.disp1
  rw [e]
  simp only [R.nb]
  rw [e3]
  simp only [R.nb]
  rw [e4]
  simp only [R.nb, e1, e2, if_true]
  exact ⟨q⟩
end
end Z
namespace Z
open PySem PySem.Spec L2
theorem nodup_len {α : Type} [DecidableEq α] : ∀ {l m : List α}, l.Nodup → (∀ x ∈ l, x ∈ m) → l.length ≤ m.length
  | [], _, _, _ => Nat.zero_le _
  | a :: l, m, nd, h => by
    have nd := List.nodup_cons.mp nd
    have h1 : l.length ≤ (m.erase a).length := nodup_len nd.2 fun x hx => (List.mem_erase_of_ne (fun (z : x = a) => nd.1 (z ▸ hx))).mpr (h x (by simp [hx]))
    have h2 := List.length_erase_of_mem (h a (by simp))
    have h3 := List.length_pos_of_mem (h a (by simp))
    rw [List.length_cons]; omega
theorem TiesOk.sub {L : List Nat} {T U : List (LP × Int)} (h : TiesOk L (T ++ U)) : TiesOk L T where
  nk := by
    have := h.nk
    unfold Nk at this ⊢
    rw [List.map_append] at this
    exact (List.nodup_append.mp this).1
  ok := fun e he => h.ok e (List.mem_append_left _ he)
theorem Ln_nodup (n : Int) : (Ln n).Nodup := List.Nodup.sublist (List.take_sublist _ _) (by decide)
theorem prv_lt {w : List Nat} {k : Nat} (h : k < w.length) : (k = 0 ∧ w.getLast? = some (prv w k)) ∨ ∃ j, k = j + 1 ∧ w[j]? = some (prv w k) := by
  unfold prv
  cases k with
  | zero =>
    refine .inl ⟨rfl, ?_⟩
    cases e : w.getLast? with
    | none => rw [List.getLast?_eq_none_iff.mp e] at h; exact absurd h (by simp)
    | some l => rfl
  | succ j =>
    refine .inr ⟨j, rfl, ?_⟩
    simp only [Nat.succ_ne_zero, if_false, Nat.add_sub_cancel]
    rw [List.getD_eq_getElem?_getD, List.getElem?_eq_getElem (by omega)]; rfl
theorem cr_prv {w : List Nat} (hc : CR w) {k : Nat} (h : k < w.length) : prv w k ≠ inv (w.getD k 0) := by
  have hk : w[k]? = some (w.getD k 0) := by rw [List.getD_eq_getElem?_getD, List.getElem?_eq_getElem h]; rfl
  rcases prv_lt h with ⟨rfl, e⟩ | ⟨j, rfl, e⟩
  · intro z
    have hp : Plain (w ++ w) := hc
    obtain ⟨u, hu⟩ : ∃ u, w = u ++ [prv w 0] := by
      obtain ⟨u, hu⟩ := List.getLast?_eq_some_iff.mp e
      exact ⟨u, hu⟩
    have hl : w.length = u.length + 1 := by have := congrArg List.length hu; simpa using this
    have g1 : (w ++ w)[u.length]? = some (prv w 0) := by
      rw [List.getElem?_append_left (by omega)]
      have : w[u.length]? = (u ++ [prv w 0])[u.length]? := congrArg (·[u.length]?) hu
      rw [this]; simp
    have g2 : (w ++ w)[u.length + 1]? = some (w.getD 0 0) := by
      rw [List.getElem?_append_right (by omega), ← hl, Nat.sub_self]; exact hk
    exact plain_get hp g1 g2 z
  · exact plain_get hc.plain e hk
theorem tiesOk {n : Int} (h : 1 ≤ n) (h' : n ≤ 4) {rs : List (List Nat)} (hr : RowOk n rs) : TiesOk (Ln n) (ties rs) := by
  obtain ⟨h1, h2, h3, h4, h5⟩ := tally_ok (rs.flatMap tps)
  refine ⟨h1, fun e he => ?_⟩
  obtain ⟨m, p⟩ := h5 e he
  obtain ⟨w, hw, m⟩ := List.mem_flatMap.mp m
  obtain ⟨hn, hc, _⟩ := hr w hw
  have hlw : Lw w := fun c hc => Ln_lw n c (hn c hc)
  unfold tps at m
  obtain ⟨k, hk, q⟩ := List.mem_map.mp m
  have hk := List.mem_range.mp hk
  have a1 := hn _ (prv_mem hk)
  have a2 := Ln_inv h h' (hn _ (getD_mem hk))
  have ne := cr_prv hc hk
  have i1 : idx (prv w k) ≠ idx (inv (w.getD k 0)) := fun z => ne (idx_inj (Ln_lw n _ a1) (Ln_lw n _ a2) z)
  rw [← q]
  unfold tieN
  split
  · exact ⟨a1, a2, by assumption, p⟩
  · exact ⟨a2, a1, by show idx (inv (w.getD k 0)) < idx (prv w k); omega, p⟩
end Z
namespace Z
open PySem PySem.Spec L2
theorem tree_closed {L : List Nat} {R : List (LP × Int)} {s : Nat} (hs : s ∈ L) : ∀ (k : Nat) {A : Ah}, TreA L R s A → L.length ≤ A.length + k → ∃ B, TreA L R s B ∧ ∀ a ∈ ks B, ∀ c ∈ L, c ∉ ks B → rmR R a c ≤ 0
  | k, A, hA, hk => by
    by_cases h : ∃ a, a ∈ ks A ∧ ∃ c, c ∈ L ∧ c ∉ ks A ∧ 0 < rmR R a c
    · obtain ⟨a, ha, c, hc, hcn, hr⟩ := h
      have h1 := TreA.snoc hA ha hcn hc hr
      have h2 := nodup_len h1.nd fun x hx => h1.sub hs x hx
      unfold ks at h2
      rw [List.length_map, List.length_append] at h2
      simp only [List.length_cons, List.length_nil] at h2
      cases k with
      | zero => omega
      | succ k => exact tree_closed hs k h1 (by rw [List.length_append]; simp only [List.length_cons, List.length_nil]; omega)
    · exact ⟨A, hA, fun a ha c hc hcn => Int.not_lt.mp fun z => h ⟨a, ha, c, hc, hcn, z⟩⟩
theorem least_exists {L : List Nat} (nd : L.Nodup) {T : List (LP × Int)} {s t : Nat} (hT : TiesOk L T) (hs : s ∈ L) (hst : s ≠ t) : ∃ sd, Least L T s t sd ∧ ∀ x ∈ sd, x ∈ L := by
  have go : ∀ (k : Nat) (R : List (LP × Int)), FlowOk L T s t R → (asum (leaves [s]) T - netR L T R s).toNat ≤ k → ∃ sd, Least L T s t sd ∧ ∀ x ∈ sd, x ∈ L := by
    intro k
    induction k with
    | zero =>
      intro R hR hk
      obtain ⟨A, hA, hcl⟩ := tree_closed (R := R) hs L.length TreA.root (by omega)
      by_cases ht : t ∈ ks A
      · obtain ⟨st, w1, w2, w3, w4, w5⟩ := hA.way hs t ht
        obtain ⟨f1, f2⟩ := flow_more nd hR (d := 1) (by decide) hst w2 (fun e he => ⟨hA.sub hs _ (w3 e he).2.1, hA.sub hs _ (w3 e he).2.2.1, (w3 e he).2.2.2⟩) w4 fun e he => (w3 e he).1
        have := flow_bound nd hT f1 [s] (by simp) hs (by simpa using Ne.symm hst)
        omega
      · exact ⟨_, (flow_least nd hT hR hs hA hcl ht).1, fun x hx => hA.sub hs x hx⟩
    | succ k ih =>
      intro R hR hk
      obtain ⟨A, hA, hcl⟩ := tree_closed (R := R) hs L.length TreA.root (by omega)
      by_cases ht : t ∈ ks A
      · obtain ⟨st, w1, w2, w3, w4, w5⟩ := hA.way hs t ht
        obtain ⟨f1, f2⟩ := flow_more nd hR (d := 1) (by decide) hst w2 (fun e he => ⟨hA.sub hs _ (w3 e he).2.1, hA.sub hs _ (w3 e he).2.2.1, (w3 e he).2.2.2⟩) w4 fun e he => (w3 e he).1
        exact ih _ f1 (by omega)
      · exact ⟨_, (flow_least nd hT hR hs hA hcl ht).1, fun x hx => hA.sub hs x hx⟩
  exact go _ _ (flow_start hT) (Nat.le_refl _)
theorem leaves_congr {sd sd' : List Nat} (h : ∀ x, x ∈ sd ↔ x ∈ sd') : leaves sd = leaves sd' := by
  funext p; unfold leaves
  rw [decide_eq_decide.mpr (h p.1), decide_eq_decide.mpr (h p.2)]
theorem Least.congr {L : List Nat} {T : List (LP × Int)} {s t : Nat} {sd sd' : List Nat} (h : ∀ x, x ∈ sd ↔ x ∈ sd') (l : Least L T s t sd) : Least L T s t sd' where
  own := (h _).mp l.own
  con := fun z => l.con ((h _).mpr z)
  least := fun u h1 h2 => by rw [← leaves_congr h]; exact l.least u h1 h2
  few := fun u h1 h2 h3 x hx => l.few u h1 h2 (by rw [h3, leaves_congr h]) x ((h x).mpr hx)
theorem least_unique {L : List Nat} {T : List (LP × Int)} {s t : Nat} {sd sd' : List Nat} (h : Least L T s t sd) (k : Least L T s t sd') : ∀ x, x ∈ sd ↔ x ∈ sd' := fun x =>
  have e : asum (leaves sd) T = asum (leaves sd') T := Int.le_antisymm (h.least _ k.own k.con) (k.least _ h.own h.con)
  ⟨fun hx => h.few _ k.own k.con e.symm x hx, fun hx => k.few _ h.own h.con e x hx⟩
noncomputable def lsd (n : Int) (T : List (LP × Int)) (b : Nat) : List Nat := (Ln n).filter fun c => @decide (∃ sd, Least (Ln n) T b (inv b) sd ∧ c ∈ sd) (Classical.propDecidable _)
theorem lsd_of {n : Int} {T : List (LP × Int)} {b : Nat} {sd : List Nat} (h : Least (Ln n) T b (inv b) sd) : lsd n T b = (Ln n).filter fun c => decide (c ∈ sd) := by
  unfold lsd
  refine List.filter_congr fun c _ => ?_
  by_cases z : c ∈ sd
  · rw [decide_eq_true z]
    exact @decide_eq_true _ (Classical.propDecidable _) ⟨sd, h, z⟩
  · rw [decide_eq_false z]
    exact @decide_eq_false _ (Classical.propDecidable _) fun ⟨sd', h', z'⟩ => z ((least_unique h h' c).mpr z')
theorem lsd_same {n : Int} {T : List (LP × Int)} {b : Nat} {sd : List Nat} (h : Least (Ln n) T b (inv b) sd) (hs : ∀ x ∈ sd, x ∈ Ln n) : ∀ x, x ∈ sd ↔ x ∈ lsd n T b := fun x => by
  rw [lsd_of h, List.mem_filter, decide_eq_true_iff]
  exact ⟨fun z => ⟨hs x z, z⟩, fun z => z.2⟩
theorem lsd_least {n : Int} (h : 1 ≤ n) (h' : n ≤ 4) {T : List (LP × Int)} (hT : TiesOk (Ln n) T) {b : Nat} (hb : b ∈ Ln n) : Least (Ln n) T b (inv b) (lsd n T b) := by
  obtain ⟨sd, h1, h2⟩ := least_exists (Ln_nodup n) hT hb (Ne.symm (inv_ne (Ln_lw n b hb)))
  exact h1.congr (lsd_same h1 h2)
theorem lsd_chg {n : Int} (h : 1 ≤ n) (h' : n ≤ 4) {T : List (LP × Int)} (hT : TiesOk (Ln n) T) {b : Nat} (hb : b ∈ Ln n) : Chg n b (lsd n T b) where
  bn := hb
  sub := by unfold lsd; exact List.filter_sublist
  own := (lsd_least h h' hT hb).own
  con := (lsd_least h h' hT hb).con
noncomputable def fallS (n : Int) (rs : List (List Nat)) (b : Nat) : Int := (rowCount rs b : Int) - asum (leaves (lsd n (ties rs) b)) (ties rs)
noncomputable def mkS1 (n : Int) (rs : List (List Nat)) (b : Nat) : Option (Nat × List Nat × Int) := if 0 < fallS n rs b then some (b, lsd n (ties rs) b, fallS n rs b) else none
noncomputable def mkS (n : Int) (rs : List (List Nat)) : Option (Nat × List Nat × Int) := (lows n).findSome? (mkS1 n rs)
theorem lows_ln {n : Int} (h : 1 ≤ n) (h' : n ≤ 4) {c : Nat} (hc : c ∈ lows n) : c ∈ Ln n := by
  rcases four h h' with rfl | rfl | rfl | rfl <;> revert c <;> decide
theorem ln_low {n : Int} (h : 1 ≤ n) (h' : n ≤ 4) {c : Nat} (hc : c ∈ Ln n) : c ∈ lows n ∨ inv c ∈ lows n := by
  rcases four h h' with rfl | rfl | rfl | rfl <;> revert c <;> decide
theorem mkS_some {n : Int} (h : 1 ≤ n) (h' : n ≤ 4) {rs : List (List Nat)} (hr : RowOk n rs) {b : Nat} {sd : List Nat} {f : Int} (e : mkS n rs = some (b, sd, f)) :
    Chg n b sd ∧ sd = lsd n (ties rs) b ∧ 0 < f ∧ f = fallS n rs b ∧ b ∈ lows n ∧ (rowLen (rowT (chg n b sd) rs) : Int) = rowLen rs - f := by
  unfold mkS at e
  obtain ⟨c, hc, e⟩ := List.exists_of_findSome?_eq_some e
  unfold mkS1 at e
  split at e
  · rename_i z
    cases e
    have hb := lows_ln h h' hc
    have g := lsd_chg h h' (tiesOk h h' hr) hb
    refine ⟨g, rfl, z, rfl, hc, ?_⟩
    have h1 := row_chg_len h h' g hr
    rw [← Int.ofNat_inj] at h1
    push_cast at h1
    rw [← ties_leave] at h1
    unfold fallS
    omega
  · cases e
theorem mkS_none {n : Int} {rs : List (List Nat)} (e : mkS n rs = none) : ∀ b ∈ lows n, fallS n rs b ≤ 0 := fun b hb => by
  unfold mkS at e
  have := List.findSome?_eq_none_iff.mp e b hb
  unfold mkS1 at this
  split at this
  · cases this
  · omega
abbrev Chs := List (Nat × List Nat)
noncomputable def shortN : Nat → Int → List (List Nat) → Chs × List (List Nat)
  | 0, _, rs => ([], rs)
  | k + 1, n, rs => match mkS n rs with
    | none => ([], rs)
    | some (b, sd, _) => ((b, sd) :: (shortN k n (rowT (chg n b sd) rs)).1, (shortN k n (rowT (chg n b sd) rs)).2)
noncomputable def short (n : Int) (rs : List (List Nat)) : Chs × List (List Nat) := shortN (rowLen rs) n rs
theorem mk_row {n : Int} (h : 1 ≤ n) (h' : n ≤ 4) {b : Nat} {sd : List Nat} (g : Chg n b sd) (rs : List (List Nat)) : RowOk n (rowT (chg n b sd) rs) := rowT_ok h h' (wn_step h h' (s := .chg b sd) g) rs
theorem shortN_more {n : Int} (h : 1 ≤ n) (h' : n ≤ 4) : ∀ (k j : Nat) {rs : List (List Nat)}, RowOk n rs → rowLen rs ≤ k → rowLen rs ≤ j → shortN k n rs = shortN j n rs := by
  intro k
  induction k with
  | zero =>
    intro j rs hr hk hj
    cases j with
    | zero => rfl
    | succ j =>
      unfold shortN
      cases e : mkS n rs with
      | none => rfl
      | some p =>
        obtain ⟨b, sd, f⟩ := p
        have := (mkS_some h h' hr e).2.2
        omega
  | succ k ih =>
    intro j rs hr hk hj
    cases j with
    | zero =>
      unfold shortN
      cases e : mkS n rs with
      | none => rfl
      | some p =>
        obtain ⟨b, sd, f⟩ := p
        have := (mkS_some h h' hr e).2.2
        omega
    | succ j =>
      unfold shortN
      cases e : mkS n rs with
      | none => rfl
      | some p =>
        obtain ⟨b, sd, f⟩ := p
        obtain ⟨g, _, f0, _, _, fl⟩ := mkS_some h h' hr e
        dsimp only
        rw [ih j (mk_row h h' g rs) (by omega) (by omega)]
theorem short_none {n : Int} {rs : List (List Nat)} (e : mkS n rs = none) : short n rs = ([], rs) := by
  unfold short
  cases rowLen rs with
  | zero => rfl
  | succ k => unfold shortN; rw [e]
theorem short_some {n : Int} (h : 1 ≤ n) (h' : n ≤ 4) {rs : List (List Nat)} (hr : RowOk n rs) {b : Nat} {sd : List Nat} {f : Int} (e : mkS n rs = some (b, sd, f)) : short n rs = ((b, sd) :: (short n (rowT (chg n b sd) rs)).1, (short n (rowT (chg n b sd) rs)).2) := by
  obtain ⟨g, _, f0, _, _, fl⟩ := mkS_some h h' hr e
  unfold short
  cases hk : rowLen rs with
  | zero => omega
  | succ k =>
    have : shortN (k + 1) n rs = ((b, sd) :: (shortN k n (rowT (chg n b sd) rs)).1, (shortN k n (rowT (chg n b sd) rs)).2) := by
      show (match mkS n rs with | none => _ | some (b, sd, _) => _) = _
      rw [e]
    rw [this, shortN_more h h' k (rowLen (rowT (chg n b sd) rs)) (mk_row h h' g rs) (by omega) (Nat.le_refl _)]
/-- by induction along the changes -/
theorem short_ind {n : Int} (h : 1 ≤ n) (h' : n ≤ 4) {P : List (List Nat) → Chs × List (List Nat) → Prop} (h0 : ∀ rs, RowOk n rs → mkS n rs = none → P rs ([], rs))
    (h1 : ∀ rs b sd f r, RowOk n rs → mkS n rs = some (b, sd, f) → P (rowT (chg n b sd) rs) r → P rs ((b, sd) :: r.1, r.2)) : ∀ {rs : List (List Nat)}, RowOk n rs → P rs (short n rs) := by
  have go : ∀ (k : Nat) {rs : List (List Nat)}, rowLen rs ≤ k → RowOk n rs → P rs (short n rs) := by
    intro k
    induction k with
    | zero =>
      intro rs hk hr
      cases e : mkS n rs with
      | none => rw [short_none e]; exact h0 rs hr e
      | some p =>
        obtain ⟨b, sd, f⟩ := p
        have := (mkS_some h h' hr e).2.2
        omega
    | succ k ih =>
      intro rs hk hr
      cases e : mkS n rs with
      | none => rw [short_none e]; exact h0 rs hr e
      | some p =>
        obtain ⟨b, sd, f⟩ := p
        obtain ⟨g, _, f0, _, _, fl⟩ := mkS_some h h' hr e
        rw [short_some h h' hr e]
        exact h1 rs b sd f _ hr e (ih (by omega) (mk_row h h' g rs))
  exact fun {rs} hr => go (rowLen rs) (Nat.le_refl _) hr
theorem short_ok {n : Int} (h : 1 ≤ n) (h' : n ≤ 4) {rs : List (List Nat)} (hr : RowOk n rs) : RowOk n (short n rs).2 ∧ mkS n (short n rs).2 = none ∧ rowLen (short n rs).2 + (short n rs).1.length ≤ rowLen rs ∧ (∀ c ∈ (short n rs).1, Chg n c.1 c.2) ∧ (short n rs).2.length = rs.length :=
  short_ind h h' (P := fun rs r => RowOk n r.2 ∧ mkS n r.2 = none ∧ rowLen r.2 + r.1.length ≤ rowLen rs ∧ (∀ c ∈ r.1, Chg n c.1 c.2) ∧ r.2.length = rs.length) (fun rs hr e => ⟨hr, e, Nat.le_refl _, (fun c hc => by cases hc), rfl⟩) (fun rs b sd f r hr e ⟨i1, i2, i3, i4, i5⟩ => by
    obtain ⟨g, _, f0, _, _, fl⟩ := mkS_some h h' hr e
    refine ⟨i1, i2, by show rowLen r.2 + ((b, sd) :: r.1).length ≤ _; rw [List.length_cons]; omega, fun c hc => ?_, by rw [i5]; unfold rowT; rw [List.length_map]⟩
    rcases List.mem_cons.mp hc with rfl | hc
    · exact g
    · exact i4 c hc) hr
end Z
namespace Z
open PySem PySem.Spec L2
def SW (w : List Nat) (g : Int → Nat) : Nat := ((List.range w.length).map fun (j : Nat) => g (j : Int)).sum
def SR (rs : List (List Nat)) (g : List Nat → Int → Nat) : Nat := (rs.map fun w => SW w (g w)).sum
def SL (l : List Nat) (f : Nat → Nat) : Nat := (l.map f).sum
theorem sum_map_add {α : Type} (f g : α → Nat) : ∀ l : List α, (l.map fun x => f x + g x).sum = (l.map f).sum + (l.map g).sum
  | [] => rfl
  | a :: l => by simp only [List.map_cons, List.sum_cons, sum_map_add f g l]; omega
theorem sum_map_le {α : Type} {f g : α → Nat} : ∀ {l : List α}, (∀ x ∈ l, f x ≤ g x) → (l.map f).sum ≤ (l.map g).sum
  | [], _ => Nat.le_refl _
  | a :: l, h => by
    have h1 := h a (by simp)
    have h2 := sum_map_le (l := l) fun x hx => h x (by simp [hx])
    simp only [List.map_cons, List.sum_cons]; omega
theorem sum_map_congr {α : Type} {f g : α → Nat} {l : List α} (h : ∀ x ∈ l, f x = g x) : (l.map f).sum = (l.map g).sum := by rw [List.map_congr_left h]
theorem sum_map_zero {α : Type} : ∀ (l : List α), (l.map fun _ => 0).sum = 0
  | [] => rfl
  | a :: l => by simp only [List.map_cons, List.sum_cons, sum_map_zero l]
theorem SW_add (w : List Nat) (f g : Int → Nat) : SW w (fun j => f j + g j) = SW w f + SW w g := sum_map_add _ _ _
theorem SW_le {w : List Nat} {f g : Int → Nat} (h : w ≠ [] → ∀ j, f j ≤ g j) : SW w f ≤ SW w g := sum_map_le fun j hj => h (fun z => by subst z; simp at hj) _
theorem SW_congr {w : List Nat} {f g : Int → Nat} (h : w ≠ [] → ∀ j, f j = g j) : SW w f = SW w g := sum_map_congr fun j hj => h (fun z => by subst z; simp at hj) _
theorem range_shift (g : Nat → Nat) : ∀ m : Nat, ((List.range m).map fun j => g (j + 1)).sum + g 0 = ((List.range m).map g).sum + g m
  | 0 => by simp
  | m + 1 => by
    have := range_shift g m
    rw [List.range_succ, List.map_append, List.map_append, List.sum_append, List.sum_append]
    simp only [List.map_cons, List.map_nil, List.sum_cons, List.sum_nil]
    omega
theorem SW_shift {w : List Nat} {g : Int → Nat} (h : ∀ j, g (j + w.length) = g j) : SW w (fun j => g (j + 1)) = SW w g := by
  have h1 := range_shift (fun j => g (j : Int)) w.length
  have h2 := h 0
  rw [Int.zero_add] at h2
  unfold SW
  have h3 : ((List.range w.length).map fun (j : Nat) => g ((j : Int) + 1)) = (List.range w.length).map fun (j : Nat) => g ((j + 1 : Nat) : Int) := List.map_congr_left fun j _ => by rw [Int.natCast_add]; rfl
  rw [h3]
  have h4 : g ((0 : Nat) : Int) = g (w.length : Int) := h2.symm
  omega
theorem SR_add (rs : List (List Nat)) (f g : List Nat → Int → Nat) : SR rs (fun w j => f w j + g w j) = SR rs f + SR rs g := by
  unfold SR
  rw [← sum_map_add]
  exact sum_map_congr fun w _ => SW_add w _ _
theorem SR_le {rs : List (List Nat)} {f g : List Nat → Int → Nat} (h : ∀ w ∈ rs, w ≠ [] → ∀ j, f w j ≤ g w j) : SR rs f ≤ SR rs g := sum_map_le fun w hw => SW_le (h w hw)
theorem SR_congr {rs : List (List Nat)} {f g : List Nat → Int → Nat} (h : ∀ w ∈ rs, w ≠ [] → ∀ j, f w j = g w j) : SR rs f = SR rs g := sum_map_congr fun w hw => SW_congr (h w hw)
theorem SR_zero (rs : List (List Nat)) : SR rs (fun _ _ => 0) = 0 := by
  unfold SR SW
  have : (rs.map fun w => ((List.range w.length).map fun _ => 0).sum) = rs.map fun _ => 0 := List.map_congr_left fun w _ => sum_map_zero _
  rw [this, sum_map_zero]
theorem SR_shift {rs : List (List Nat)} {g : List Nat → Int → Nat} (h : ∀ w ∈ rs, ∀ j, g w (j + w.length) = g w j) : SR rs (fun w j => g w (j + 1)) = SR rs g := sum_map_congr fun w hw => SW_shift (h w hw)
theorem SL_SR (l : List Nat) (rs : List (List Nat)) (f : Nat → List Nat → Int → Nat) : SL l (fun d => SR rs (f d)) = SR rs (fun w j => SL l fun d => f d w j) := by
  induction l with
  | nil =>
    have : (fun (w : List Nat) (j : Int) => SL [] fun d => f d w j) = fun _ _ => 0 := by funext w j; rfl
    rw [this, SR_zero]; rfl
  | cons a l ih =>
    have : (fun (w : List Nat) (j : Int) => SL (a :: l) fun d => f d w j) = fun w j => f a w j + SL l fun d => f d w j := by funext w j; unfold SL; rw [List.map_cons, List.sum_cons]
    rw [this, SR_add, ← ih]
    unfold SL; rw [List.map_cons, List.sum_cons]
theorem SL_le {l : List Nat} {f g : Nat → Nat} (h : ∀ x ∈ l, f x ≤ g x) : SL l f ≤ SL l g := sum_map_le h
theorem le_SL {l : List Nat} {f : Nat → Nat} {d : Nat} (h : d ∈ l) : f d ≤ SL l f := by
  unfold SL
  induction l with
  | nil => cases h
  | cons a l ih =>
    rw [List.map_cons, List.sum_cons]
    rcases List.mem_cons.mp h with rfl | h
    · omega
    · have := ih h; omega
def att (w : List Nat) (i : Int) : Nat := w.getD (i % w.length).toNat 0
theorem att_per (w : List Nat) (i : Int) : att w (i + w.length) = att w i := by unfold att; rw [Int.add_emod_right]
theorem att_mem {w : List Nat} (h : w ≠ []) (i : Int) : att w i ∈ w := by
  have hl : 0 < w.length := List.length_pos_iff.mpr h
  have h1 := Int.emod_nonneg i (show (w.length : Int) ≠ 0 by omega)
  have h2 := Int.emod_lt_of_pos i (show (0 : Int) < (w.length : Int) by omega)
  exact getD_mem (by omega)
theorem att_nat {w : List Nat} {k : Nat} (h : k < w.length) : att w (k : Int) = w.getD k 0 := by
  unfold att
  rw [Int.emod_eq_of_lt (by omega) (by omega)]; rfl
theorem att_prv {w : List Nat} {k : Nat} (h : k < w.length) : att w ((k : Int) - 1) = prv w k := by
  unfold prv
  cases k with
  | zero =>
    rw [if_pos rfl]
    have : ((0 : Nat) : Int) - 1 = ((w.length - 1 : Nat) : Int) - w.length := by omega
    rw [this]
    have e : att w (((w.length - 1 : Nat) : Int) - w.length) = att w ((w.length - 1 : Nat) : Int) := by
      have := att_per w (((w.length - 1 : Nat) : Int) - w.length)
      rw [← this]
      congr 1
      omega
    rw [e, att_nat (by omega), List.getLast?_eq_getElem?, List.getD_eq_getElem?_getD]
  | succ j =>
    rw [if_neg (Nat.succ_ne_zero j)]
    have : ((j + 1 : Nat) : Int) - 1 = (j : Int) := by omega
    rw [this, att_nat (by omega)]; rfl
def cn (d : Nat) (f : Nat → Nat) : Nat → Nat
  | 0 => d
  | i + 1 => f i
def kst (c : Nat) : Nat → Nat := fun _ => c
theorem cn_kst (c : Nat) : cn c (kst c) = kst c := by funext i; cases i <;> rfl
def Fw (w : List Nat) (j : Int) : Nat → Nat := fun i => att w (j + i)
def Bw (w : List Nat) (j : Int) : Nat → Nat := fun i => inv (att w (j - 1 - i))
theorem Fw_per (w : List Nat) (j : Int) : Fw w (j + w.length) = Fw w j := by
  funext i; unfold Fw
  rw [← att_per w (j + i)]; congr 1; omega
theorem Bw_per (w : List Nat) (j : Int) : Bw w (j + w.length) = Bw w j := by
  funext i; unfold Bw
  rw [← att_per w (j - 1 - i)]; congr 2; omega
theorem Fw_cn (w : List Nat) (j : Int) : Fw w j = cn (att w j) (Fw w (j + 1)) := by
  funext i
  cases i with
  | zero => show att w (j + ((0 : Nat) : Int)) = att w j; congr 1; omega
  | succ i => show att w (j + ((i + 1 : Nat) : Int)) = att w (j + 1 + i); congr 1; omega
theorem Bw_cn (w : List Nat) (j : Int) : Bw w (j + 1) = cn (inv (att w j)) (Bw w j) := by
  funext i
  cases i with
  | zero => show inv (att w (j + 1 - 1 - ((0 : Nat) : Int))) = inv (att w j); congr 2; omega
  | succ i => show inv (att w (j + 1 - 1 - ((i + 1 : Nat) : Int))) = inv (att w (j - 1 - i)); congr 2; omega
theorem Fw0 (w : List Nat) (j : Int) : Fw w j 0 = att w j := by rw [Fw_cn]; rfl
theorem Bw0 (w : List Nat) (j : Int) : Bw w (j + 1) 0 = inv (att w j) := by rw [Bw_cn]; rfl
abbrev Wl := (Nat → Nat) → Bool
def dt (K : Nat) (χ : Wl) : Prop := ∀ f g, (∀ i, i < K → f i = g i) → χ f = χ g
def sbw (d : Nat) (χ : Wl) : Wl := fun f => χ (cn d f)
theorem dt_sbw {K d : Nat} {χ : Wl} (h : dt (K + 1) χ) : dt K (sbw d χ) := fun f g e => h _ _ fun i hi => by
  cases i with
  | zero => rfl
  | succ i => exact e i (by omega)
def cross0 (b : Nat) (χ : Wl) (w : List Nat) (j : Int) : Nat := (!decide (Fw w j 0 = b) && !decide (Bw w j 0 = b) && (χ (Fw w j) != χ (Bw w j))).toNat
def Icr (L : List Nat) (rs : List (List Nat)) : Nat → Nat → Wl → Nat
  | 0, _, _ => 0
  | K + 1, b, χ => SR rs (fun w j => cross0 b χ w j) + SL (L.filter fun d => !decide (d = b)) fun d => Icr L rs K (inv d) (sbw d χ)
/-- no side is left by fewer ties than its letter counts -/
def MinR (n : Int) (rs : List (List Nat)) : Prop := ∀ x ∈ Ln n, ∀ p : Nat → Bool, p x = true → p (inv x) = false → rowCount rs x ≤ SR rs fun w j => (p (Fw w j 0) != p (Bw w j 0)).toNat
theorem count_SW (w : List Nat) (x : Nat) : w.count x = SW w fun j => (decide (att w j = x)).toNat := by
  unfold SW
  have e : ((List.range w.length).map fun (j : Nat) => (decide (att w (j : Int) = x)).toNat) = (List.range w.length).map fun j => (decide (w.getD j 0 = x)).toNat := List.map_congr_left fun j hj => by rw [att_nat (List.mem_range.mp hj)]
  rw [e]
  have key : ∀ (w : List Nat), ((List.range w.length).map fun j => (decide (w.getD j 0 = x)).toNat).sum = (w.map fun c => (decide (c = x)).toNat).sum := fun w => by
    congr 1
    apply List.ext_getElem
    · simp
    · intro i h1 h2
      simp only [List.length_map, List.length_range] at h1
      simp [List.getD_eq_getElem?_getD, h1]
  rw [key]
  induction w with
  | nil => rfl
  | cons a w ih =>
    rw [List.map_cons, List.sum_cons, List.count_cons]
    have ih2 : w.count x = (w.map fun c => (decide (c = x)).toNat).sum := by
      clear e ih
      induction w with
      | nil => rfl
      | cons b w ih => rw [List.map_cons, List.sum_cons, List.count_cons, ih]; by_cases z : b = x <;> simp [z] <;> omega
    rw [ih2]
    by_cases z : a = x <;> simp [z] <;> omega
theorem rowCount_SR {rs : List (List Nat)} (hl : ∀ w ∈ rs, Lw w) {x : Nat} (hx : x ∈ lets) : rowCount rs x = SR rs fun w j => (decide (Fw w j 0 = x)).toNat + (decide (Bw w j 0 = x)).toNat := by
  rw [SR_add]
  have e2 : SR rs (fun w j => (decide (Bw w j 0 = x)).toNat) = SR rs (fun w j => (decide (att w j = inv x)).toNat) := by
    rw [← SR_shift (g := fun w j => (decide (Bw w j 0 = x)).toNat) fun w _ j => by rw [Bw_per]]
    refine SR_congr fun w hw hn j => ?_
    rw [Bw0]
    have ha := hl w hw _ (att_mem hn j)
    congr 1
    refine decide_eq_decide.mpr ⟨fun z => by rw [← z, inv_inv ha], fun z => by rw [z, inv_inv hx]⟩
  have e1 : SR rs (fun w j => (decide (Fw w j 0 = x)).toNat) = SR rs (fun w j => (decide (att w j = x)).toNat) := SR_congr fun w _ _ j => by rw [Fw0]
  rw [e1, e2, ← SR_add]
  unfold rowCount SR
  refine sum_map_congr fun w _ => ?_
  rw [SW_add, ← count_SW, ← count_SW]
theorem rowCount_inv {rs : List (List Nat)} {x : Nat} (hx : x ∈ lets) : rowCount rs (inv x) = rowCount rs x := by
  unfold rowCount
  refine sum_map_congr fun w _ => ?_
  rw [inv_inv hx]; omega
theorem bool7 : ∀ (fb bb xF xB v cF cB : Bool), (bb && (xF != v)).toNat + (fb && (xB != v)).toNat + ((!fb && (cF == v)) != (!bb && (cB == v))).toNat ≤ (!fb && !bb && (xF != xB)).toNat + ((!fb && (xF != cF)).toNat + (!bb && (xB != cB)).toNat) + (fb.toNat + bb.toNat) := by decide
/-- what the errors of straight ahead cost, by what is further on -/
theorem cone_err {n : Int} (h : 1 ≤ n) (h' : n ≤ 4) {rs : List (List Nat)} (hr : ∀ w ∈ rs, ∀ c ∈ w, c ∈ Ln n) {K b : Nat} {χ : Wl}
    (ih : ∀ d ∈ Ln n, SR rs (fun w j => (decide (Bw w j 0 = inv d) && (sbw d χ (Fw w j) != sbw d χ (kst (inv (inv d))))).toNat + (decide (Fw w j 0 = inv d) && (sbw d χ (Bw w j) != sbw d χ (kst (inv (inv d))))).toNat) ≤ Icr (Ln n) rs K (inv d) (sbw d χ)) :
    SR rs (fun w j => (!decide (Fw w j 0 = b) && (χ (Fw w j) != χ (kst (Fw w j 0)))).toNat + (!decide (Bw w j 0 = b) && (χ (Bw w j) != χ (kst (Bw w j 0)))).toNat) ≤ SL ((Ln n).filter fun d => !decide (d = b)) fun d => Icr (Ln n) rs K (inv d) (sbw d χ) := by
  have hl : ∀ w ∈ rs, Lw w := fun w hw c hc => Ln_lw n c (hr w hw c hc)
  have step : ∀ d ∈ (Ln n).filter (fun d => !decide (d = b)), SR rs (fun w j => (decide (Fw w j 0 = d) && (χ (Fw w j) != χ (kst d))).toNat + (decide (Bw w j 0 = d) && (χ (Bw w j) != χ (kst d))).toNat) ≤ Icr (Ln n) rs K (inv d) (sbw d χ) := fun d hd => by
    have hdn := (List.mem_filter.mp hd).1
    have hdl := Ln_lw n d hdn
    refine Nat.le_trans (Nat.le_of_eq ?_) (ih d hdn)
    have ek : sbw d χ (kst (inv (inv d))) = χ (kst d) := by unfold sbw; rw [inv_inv hdl, cn_kst]
    rw [ek, SR_add, SR_add]
    congr 1
    · rw [← SR_shift (g := fun w j => (decide (Bw w j 0 = inv d) && (sbw d χ (Fw w j) != χ (kst d))).toNat) fun w _ j => by rw [Bw_per, Fw_per]]
      refine SR_congr fun w hw hn j => ?_
      rw [Bw0, Fw0]
      have ha := hl w hw _ (att_mem hn j)
      by_cases z : att w j = d
      · rw [decide_eq_true z, decide_eq_true (by rw [z])]
        have : χ (Fw w j) = sbw d χ (Fw w (j + 1)) := by unfold sbw; rw [Fw_cn, z]
        rw [this]
      · rw [decide_eq_false z, decide_eq_false fun q => z (inv_inj ha hdl q)]; rfl
    · rw [← SR_shift (g := fun w j => (decide (Bw w j 0 = d) && (χ (Bw w j) != χ (kst d))).toNat) fun w _ j => by rw [Bw_per]]
      refine SR_congr fun w hw hn j => ?_
      rw [Bw0, Fw0]
      have ha := hl w hw _ (att_mem hn j)
      by_cases z : inv (att w j) = d
      · rw [decide_eq_true z, decide_eq_true (by rw [← z, inv_inv ha])]
        have : χ (Bw w (j + 1)) = sbw d χ (Bw w j) := by unfold sbw; rw [Bw_cn, z]
        rw [this]
      · rw [decide_eq_false z, decide_eq_false fun q => z (by rw [q, inv_inv hdl])]; rfl
  refine Nat.le_trans ?_ (SL_le step)
  rw [SL_SR]
  refine SR_le fun w hw hn j => ?_
  have hF : Fw w j 0 ∈ Ln n := by rw [Fw0]; exact hr w hw _ (att_mem hn j)
  have hB : Bw w j 0 ∈ Ln n := by
    have := Bw0 w (j - 1)
    rw [Int.sub_add_cancel] at this
    rw [this]; exact Ln_inv h h' (hr w hw _ (att_mem hn (j - 1)))
  have e : (SL ((Ln n).filter fun d => !decide (d = b)) fun d => (decide (Fw w j 0 = d) && (χ (Fw w j) != χ (kst d))).toNat + (decide (Bw w j 0 = d) && (χ (Bw w j) != χ (kst d))).toNat) =
      (SL ((Ln n).filter fun d => !decide (d = b)) fun d => (decide (Fw w j 0 = d) && (χ (Fw w j) != χ (kst d))).toNat) + SL ((Ln n).filter fun d => !decide (d = b)) fun d => (decide (Bw w j 0 = d) && (χ (Bw w j) != χ (kst d))).toNat := sum_map_add _ _ _
  rw [e]
  refine Nat.add_le_add ?_ ?_
  · by_cases z : Fw w j 0 = b
    · rw [decide_eq_true z]; exact Nat.zero_le _
    · refine Nat.le_trans (Nat.le_of_eq ?_) (le_SL (d := Fw w j 0) (List.mem_filter.mpr ⟨hF, by rw [decide_eq_false z]; rfl⟩))
      rw [decide_eq_false z, decide_eq_true rfl]; rfl
  · by_cases z : Bw w j 0 = b
    · rw [decide_eq_true z]; exact Nat.zero_le _
    · refine Nat.le_trans (Nat.le_of_eq ?_) (le_SL (d := Bw w j 0) (List.mem_filter.mpr ⟨hB, by rw [decide_eq_false z]; rfl⟩))
      rw [decide_eq_false z, decide_eq_true rfl]; rfl
theorem cone {n : Int} (h : 1 ≤ n) (h' : n ≤ 4) {rs : List (List Nat)} (hr : ∀ w ∈ rs, ∀ c ∈ w, c ∈ Ln n) (hm : MinR n rs) : ∀ (K : Nat) (b : Nat) (χ : Wl), b ∈ Ln n → dt K χ →
    SR rs (fun w j => (decide (Bw w j 0 = b) && (χ (Fw w j) != χ (kst (inv b)))).toNat + (decide (Fw w j 0 = b) && (χ (Bw w j) != χ (kst (inv b)))).toNat) ≤ Icr (Ln n) rs K b χ
  | 0, b, χ, hb, hd => by
    have e : ∀ f g, χ f = χ g := fun f g => hd f g fun i hi => absurd hi (Nat.not_lt_zero i)
    refine Nat.le_trans (SR_le (g := fun _ _ => 0) fun w _ _ j => ?_) (by rw [SR_zero]; exact Nat.zero_le _)
    rw [e (Fw w j) (kst (inv b)), e (Bw w j) (kst (inv b))]
    simp
  | K + 1, b, χ, hb, hd => by
    have hl : ∀ w ∈ rs, Lw w := fun w hw c hc => Ln_lw n c (hr w hw c hc)
    have hbl := Ln_lw n b hb
    have ih := fun d (hdn : d ∈ Ln n) => cone h h' hr hm K (inv d) (sbw d χ) (Ln_inv h h' hdn) (dt_sbw hd)
    have err := cone_err h h' hr (b := b) ih
    have mn := hm (inv b) (Ln_inv h h' hb) (fun c => !decide (c = b) && (χ (kst c) == χ (kst (inv b)))) (by
      show (!decide (inv b = b) && (χ (kst (inv b)) == χ (kst (inv b)))) = true
      rw [decide_eq_false (inv_ne hbl), beq_self_eq_true]; rfl) (by
      show (!decide (inv (inv b) = b) && _) = false
      rw [inv_inv hbl, decide_eq_true rfl]; rfl)
    rw [rowCount_inv hbl, rowCount_SR hl hbl] at mn
    have pt : SR rs (fun w j => ((decide (Bw w j 0 = b) && (χ (Fw w j) != χ (kst (inv b)))).toNat + (decide (Fw w j 0 = b) && (χ (Bw w j) != χ (kst (inv b)))).toNat) + ((!decide (Fw w j 0 = b) && (χ (kst (Fw w j 0)) == χ (kst (inv b)))) != (!decide (Bw w j 0 = b) && (χ (kst (Bw w j 0)) == χ (kst (inv b))))).toNat) ≤
        SR rs (fun w j => (cross0 b χ w j + ((!decide (Fw w j 0 = b) && (χ (Fw w j) != χ (kst (Fw w j 0)))).toNat + (!decide (Bw w j 0 = b) && (χ (Bw w j) != χ (kst (Bw w j 0)))).toNat)) + ((decide (Fw w j 0 = b)).toNat + (decide (Bw w j 0 = b)).toNat)) := SR_le fun w _ _ j => bool7 _ _ _ _ _ _ _
    rw [SR_add, SR_add rs (fun w j => cross0 b χ w j + _), SR_add rs (fun w j => cross0 b χ w j)] at pt
    show _ ≤ SR rs (fun w j => cross0 b χ w j) + SL _ _
    omega
theorem bool4 : ∀ (xF xB v cF cB : Bool), ((cF == v) != (cB == v)).toNat ≤ (xF != xB).toNat + ((xF != cF).toNat + (xB != cB).toNat) := by decide
/-- a wall between both ends of a letter told again and again -/
theorem wall {n : Int} (h : 1 ≤ n) (h' : n ≤ 4) {rs : List (List Nat)} (hr : ∀ w ∈ rs, ∀ c ∈ w, c ∈ Ln n) (hm : MinR n rs) {K : Nat} {χ : Wl} (hd : dt (K + 1) χ) {x : Nat} (hx : x ∈ Ln n) (hne : χ (kst x) ≠ χ (kst (inv x))) : rowCount rs x ≤ Icr (Ln n) rs (K + 1) 0 χ := by
  have ih := fun d (hdn : d ∈ Ln n) => cone h h' hr hm K (inv d) (sbw d χ) (Ln_inv h h' hdn) (dt_sbw hd)
  have err := cone_err h h' hr (b := 0) ih
  have mn := hm x hx (fun c => χ (kst c) == χ (kst x)) (beq_self_eq_true _) (beq_eq_false_iff_ne.mpr (Ne.symm hne))
  have n0 : ∀ c ∈ Ln n, c ≠ 0 := fun c hc z => by subst z; exact absurd (Ln_lw n 0 hc) (by decide)
  have pt : SR rs (fun w j => ((χ (kst (Fw w j 0)) == χ (kst x)) != (χ (kst (Bw w j 0)) == χ (kst x))).toNat) ≤ SR rs (fun w j => cross0 0 χ w j + ((!decide (Fw w j 0 = 0) && (χ (Fw w j) != χ (kst (Fw w j 0)))).toNat + (!decide (Bw w j 0 = 0) && (χ (Bw w j) != χ (kst (Bw w j 0)))).toNat)) := SR_le fun w hw hn j => by
    have hF : Fw w j 0 ∈ Ln n := by rw [Fw0]; exact hr w hw _ (att_mem hn j)
    have hB : Bw w j 0 ∈ Ln n := by
      have := Bw0 w (j - 1)
      rw [Int.sub_add_cancel] at this
      rw [this]; exact Ln_inv h h' (hr w hw _ (att_mem hn (j - 1)))
    unfold cross0
    rw [decide_eq_false (n0 _ hF), decide_eq_false (n0 _ hB)]
    simp only [Bool.not_false, Bool.true_and]
    exact bool4 _ _ _ _ _
  rw [SR_add rs (fun w j => cross0 0 χ w j)] at pt
  show _ ≤ SR rs (fun w j => cross0 0 χ w j) + SL _ _
  omega
end Z
namespace Z
open PySem PySem.Spec L2
theorem minR_of {n : Int} (h : 1 ≤ n) (h' : n ≤ 4) {rs : List (List Nat)} (hr : RowOk n rs) (e : mkS n rs = none) : MinR n rs := by
  intro x hx p h1 h2
  have hxl := Ln_lw n x hx
  have hT := tiesOk h h' hr
  have cut : ∀ (q : Nat → Bool), asum (leaves ((Ln n).filter fun c => q (inv c))) (ties rs) = ((SR rs fun w j => (q (Fw w j 0) != q (Bw w j 0)).toNat : Nat) : Int) := fun q => by
    rw [ties_leave]
    congr 1
    unfold SR
    have e1 : ∀ (rs : List (List Nat)), (∀ w ∈ rs, ∀ c ∈ w, c ∈ Ln n) → (rs.flatMap tps).countP (leaves ((Ln n).filter fun c => q (inv c))) = (rs.map fun w => SW w fun j => (q (Fw w j 0) != q (Bw w j 0)).toNat).sum := by
      intro rs
      induction rs with
      | nil => intro _; rfl
      | cons w rs ih =>
        intro hh
        rw [List.flatMap_cons, List.countP_append, List.map_cons, List.sum_cons, ih fun v hv => hh v (by simp [hv])]
        congr 1
        unfold tps SW
        rw [List.countP_map]
        have key : ∀ (l : List Nat), (∀ j ∈ l, j < w.length) → l.countP (leaves ((Ln n).filter fun c => q (inv c)) ∘ fun k => tieN (prv w k) (inv (w.getD k 0))) = (l.map fun (j : Nat) => (q (Fw w (j : Int) 0) != q (Bw w (j : Int) 0)).toNat).sum := by
          intro l
          induction l with
          | nil => intro _; rfl
          | cons k l ih2 =>
            intro hk
            have hkw := hk k (by simp)
            have a1 := hh w (by simp) _ (prv_mem hkw)
            have a2 := hh w (by simp) _ (getD_mem hkw)
            have a3 := Ln_inv h h' a2
            rw [List.countP_cons, List.map_cons, List.sum_cons, ih2 fun j hj => hk j (by simp [hj])]
            have e2 : (leaves ((Ln n).filter fun c => q (inv c)) ∘ fun k => tieN (prv w k) (inv (w.getD k 0))) k = (q (Fw w (k : Int) 0) != q (Bw w (k : Int) 0)) := by
              show leaves _ (tieN (prv w k) (inv (w.getD k 0))) = _
              rw [leaves_tie]
              have m : ∀ c ∈ Ln n, decide (c ∈ (Ln n).filter fun c => q (inv c)) = q (inv c) := fun c hc => by
                rw [Bool.eq_iff_iff, decide_eq_true_iff, List.mem_filter]
                exact ⟨fun z => z.2, fun z => ⟨hc, z⟩⟩
              rw [m _ a1, m _ a3, inv_inv (Ln_lw n _ a2), Fw0, att_nat hkw]
              have : Bw w (k : Int) 0 = inv (prv w k) := by
                have := Bw0 w ((k : Int) - 1)
                rw [Int.sub_add_cancel] at this
                rw [this, att_prv hkw]
              rw [this]
              cases q (inv (prv w k)) <;> cases q (w.getD k 0) <;> rfl
            rw [e2]
            cases (q (Fw w (k : Int) 0) != q (Bw w (k : Int) 0)) <;> simp <;> omega
        exact key _ fun j hj => List.mem_range.mp hj
    exact e1 rs fun w hw => (hr w hw).1
  rcases ln_low h h' hx with hlow | hlow
  · have f := mkS_none e x hlow
    have L := lsd_least h h' hT hx
    have c := L.least ((Ln n).filter fun c => !p (inv c)) (by rw [List.mem_filter]; exact ⟨hx, by rw [h2]; rfl⟩) (by rw [List.mem_filter]; intro z; rw [inv_inv hxl, h1] at z; exact absurd z.2 (by decide))
    have ec := cut (fun c => !p c)
    have e3 : (SR rs fun w j => ((!p (Fw w j 0)) != (!p (Bw w j 0))).toNat) = SR rs fun w j => (p (Fw w j 0) != p (Bw w j 0)).toNat := SR_congr fun w _ _ j => by cases p (Fw w j 0) <;> cases p (Bw w j 0) <;> rfl
    rw [e3] at ec
    unfold fallS at f
    omega
  · have f := mkS_none e (inv x) hlow
    have hxi := Ln_inv h h' hx
    have L := lsd_least h h' hT hxi
    have c := L.least ((Ln n).filter fun c => p (inv c)) (by rw [List.mem_filter]; exact ⟨hxi, by rw [inv_inv hxl]; exact h1⟩) (by rw [List.mem_filter, inv_inv hxl]; intro z; rw [h2] at z; exact absurd z.2 (by decide))
    have ec := cut p
    have e4 := rowCount_inv (rs := rs) hxl
    unfold fallS at f
    omega
def app (g : List Nat) (f : Nat → Nat) : Nat → Nat := g.foldr cn f
theorem app_get : ∀ (g : List Nat) (f : Nat → Nat) (i : Nat), app g f i = (g[i]?).getD (f (i - g.length))
  | [], f, i => rfl
  | c :: g, f, 0 => rfl
  | c :: g, f, i + 1 => by
    show app g f i = _
    rw [app_get g f i, List.getElem?_cons_succ, List.length_cons, Nat.add_sub_add_right]
theorem app_take {g R : List Nat} {f : Nat → Nat} {K : Nat} (h : ∀ i, i < K → R[i]? = some (f i)) : (g ++ R).take K = (List.range K).map (app g f) := by
  have hR : K ≤ R.length ∨ K = 0 := by
    cases K with
    | zero => exact .inr rfl
    | succ K => have := (List.getElem?_eq_some_iff.mp (h K (by omega))).1; exact .inl (by omega)
  apply List.ext_getElem?
  intro i
  rw [List.getElem?_take, List.getElem?_map]
  by_cases hi : i < K
  · rw [if_pos hi, List.getElem?_range hi, Option.map_some, app_get]
    by_cases hg : i < g.length
    · rw [List.getElem?_append_left hg, List.getElem?_eq_getElem hg]; rfl
    · rw [List.getElem?_append_right (by omega), List.getElem?_eq_none (by omega : g.length ≤ i), h (i - g.length) (by omega)]; rfl
  · rw [if_neg hi, List.getElem?_eq_none (by simpa using hi)]; rfl
def crs (b : Nat) (χ : Wl) (w : List Nat) (j : Nat) : Bool := !decide (Fw w (j : Int) 0 = b) && !decide (Bw w (j : Int) 0 = b) && (χ (Fw w (j : Int)) != χ (Bw w (j : Int)))
def lns (L w : List Nat) : Nat → Nat → Wl → List (List Nat × Nat)
  | 0, _, _ => []
  | K + 1, b, χ => ((List.range w.length).filter fun j => crs b χ w j).map (fun j => ([], j)) ++ (L.filter fun d => !decide (d = b)).flatMap fun d => (lns L w K (inv d) (sbw d χ)).map fun p => (d :: p.1, p.2)
theorem filter_len (p : Nat → Bool) : ∀ l : List Nat, (l.filter p).length = (l.map fun j => (p j).toNat).sum
  | [] => rfl
  | a :: l => by
    rw [List.map_cons, List.sum_cons, ← filter_len p l, List.filter_cons]
    cases p a
    · simp
    · simp; omega
theorem lns_len (L w : List Nat) : ∀ (K b : Nat) (χ : Wl), (lns L w K b χ).length = Icr L [w] K b χ
  | 0, _, _ => rfl
  | K + 1, b, χ => by
    unfold lns Icr
    rw [List.length_append, List.length_map, filter_len, List.length_flatMap]
    have e : SR [w] (fun w j => cross0 b χ w j) = ((List.range w.length).map fun j => (crs b χ w j).toNat).sum := by unfold SR; simp only [List.map_cons, List.map_nil, List.sum_cons, List.sum_nil, Nat.add_zero]; rfl
    rw [e]
    congr 1
    unfold SL
    refine sum_map_congr fun d _ => ?_
    rw [List.length_map, lns_len]
theorem Icr_cons (L : List Nat) (w : List Nat) (rs : List (List Nat)) : ∀ (K b : Nat) (χ : Wl), Icr L (w :: rs) K b χ = Icr L [w] K b χ + Icr L rs K b χ
  | 0, _, _ => rfl
  | K + 1, b, χ => by
    unfold Icr
    have e : SR (w :: rs) (fun w j => cross0 b χ w j) = SR [w] (fun w j => cross0 b χ w j) + SR rs (fun w j => cross0 b χ w j) := by unfold SR; simp
    have e2 : (SL (L.filter fun d => !decide (d = b)) fun d => Icr L (w :: rs) K (inv d) (sbw d χ)) = (SL (L.filter fun d => !decide (d = b)) fun d => Icr L [w] K (inv d) (sbw d χ)) + SL (L.filter fun d => !decide (d = b)) fun d => Icr L rs K (inv d) (sbw d χ) := by
      unfold SL; rw [← sum_map_add]
      exact sum_map_congr fun d _ => Icr_cons L w rs K (inv d) (sbw d χ)
    rw [e, e2]; omega
theorem Icr_nil (L : List Nat) : ∀ (K b : Nat) (χ : Wl), Icr L [] K b χ = 0
  | 0, _, _ => rfl
  | K + 1, b, χ => by
    unfold Icr
    have e2 : (SL (L.filter fun d => !decide (d = b)) fun d => Icr L [] K (inv d) (sbw d χ)) = SL (L.filter fun d => !decide (d = b)) fun _ => 0 := by
      unfold SL; exact sum_map_congr fun d _ => Icr_nil L K (inv d) (sbw d χ)
    rw [e2]; unfold SL SR; rw [sum_map_zero]; rfl
/-- no letter beside its contrary, none behind b's -/
def Pl : Nat → List Nat → Prop
  | _, [] => True
  | b, c :: l => c ≠ b ∧ Pl (inv c) l
theorem Pl.plain : ∀ {l : List Nat} {b : Nat}, Lw l → Pl b l → Plain l
  | [], _, _, _ => trivial
  | [_], _, _, _ => trivial
  | a :: c :: l, b, hl, h => by
    refine ⟨fun z => h.2.1 ?_, Pl.plain (fun x hx => hl x (by simp [hx])) h.2⟩
    rw [z, inv_inv (hl c (by simp))]
theorem lns_mem {L w : List Nat} : ∀ {K b : Nat} {χ : Wl} {p : List Nat × Nat}, p ∈ lns L w K b χ → p.2 < w.length ∧ (∀ c ∈ p.1, c ∈ L) ∧ Pl b (p.1 ++ [Fw w (p.2 : Int) 0]) ∧ Pl b (p.1 ++ [Bw w (p.2 : Int) 0]) ∧ χ (app p.1 (Fw w (p.2 : Int))) ≠ χ (app p.1 (Bw w (p.2 : Int)))
  | 0, _, _, _, h => by cases h
  | K + 1, b, χ, p, h => by
    unfold lns at h
    rcases List.mem_append.mp h with h | h
    · obtain ⟨j, hj, rfl⟩ := List.mem_map.mp h
      obtain ⟨h1, h2⟩ := List.mem_filter.mp hj
      unfold crs at h2
      simp only [Bool.and_eq_true, Bool.not_eq_true', decide_eq_false_iff_not, bne_iff_ne] at h2
      exact ⟨List.mem_range.mp h1, (fun c hc => by cases hc), ⟨h2.1.1, trivial⟩, ⟨h2.1.2, trivial⟩, h2.2⟩
    · obtain ⟨d, hd, h⟩ := List.mem_flatMap.mp h
      obtain ⟨q, hq, rfl⟩ := List.mem_map.mp h
      obtain ⟨h1, h2⟩ := List.mem_filter.mp hd
      have h2 : d ≠ b := by simpa using h2
      obtain ⟨i1, i2, i3, i4, i5⟩ := lns_mem hq
      refine ⟨i1, fun c hc => ?_, ⟨h2, i3⟩, ⟨h2, i4⟩, i5⟩
      rcases List.mem_cons.mp hc with rfl | hc
      · exact h1
      · exact i2 c hc
theorem nodup_map_on {α β : Type} {f : α → β} : ∀ {l : List α}, (∀ x ∈ l, ∀ y ∈ l, f x = f y → x = y) → l.Nodup → (l.map f).Nodup
  | [], _, _ => List.nodup_nil
  | a :: l, h, nd => by
    have nd := List.nodup_cons.mp nd
    rw [List.map_cons]
    refine List.nodup_cons.mpr ⟨fun m => ?_, nodup_map_on (fun x hx y hy => h x (by simp [hx]) y (by simp [hy])) nd.2⟩
    obtain ⟨y, hy, e⟩ := List.mem_map.mp m
    have := h y (by simp [hy]) a (by simp) e
    exact nd.1 (this ▸ hy)
theorem nodup_flatMap {α β : Type} {f : α → List β} : ∀ {l : List α}, l.Nodup → (∀ a ∈ l, (f a).Nodup) → (∀ a ∈ l, ∀ b ∈ l, a ≠ b → ∀ x ∈ f a, x ∉ f b) → (l.flatMap f).Nodup
  | [], _, _, _ => List.nodup_nil
  | a :: l, nd, h1, h2 => by
    have nd := List.nodup_cons.mp nd
    rw [List.flatMap_cons]
    refine List.nodup_append.mpr ⟨h1 a (by simp), nodup_flatMap nd.2 (fun b hb => h1 b (by simp [hb])) (fun b hb c hc => h2 b (by simp [hb]) c (by simp [hc])), fun x hx y hy e => ?_⟩
    obtain ⟨b, hb, hy⟩ := List.mem_flatMap.mp hy
    subst e
    exact h2 a (by simp) b (by simp [hb]) (fun z => nd.1 (z ▸ hb)) x hx hy
theorem lns_nodup {L w : List Nat} (nd : L.Nodup) : ∀ (K b : Nat) (χ : Wl), (lns L w K b χ).Nodup
  | 0, _, _ => List.nodup_nil
  | K + 1, b, χ => by
    unfold lns
    refine List.nodup_append.mpr ⟨nodup_map_on (fun x _ y _ e => (Prod.mk.inj e).2) (List.nodup_range.filter _), ?_, fun x hx y hy e => ?_⟩
    · refine nodup_flatMap (nd.filter _) (fun d _ => nodup_map_on (fun x _ y _ e => ?_) (lns_nodup nd K _ _)) fun a _ c _ hac x hx hx2 => ?_
      · have e1 := (Prod.mk.inj e).1
        have e2 := (Prod.mk.inj e).2
        exact Prod.ext (List.cons.inj e1).2 e2
      · obtain ⟨q, _, rfl⟩ := List.mem_map.mp hx
        obtain ⟨q2, _, e⟩ := List.mem_map.mp hx2
        exact hac (List.cons.inj (Prod.mk.inj e).1).1.symm
    · obtain ⟨j, _, rfl⟩ := List.mem_map.mp hx
      obtain ⟨d, _, hy⟩ := List.mem_flatMap.mp hy
      obtain ⟨q, _, rfl⟩ := List.mem_map.mp hy
      cases (Prod.mk.inj e).1
theorem att_cr {w : List Nat} (hc : CR w) (hn : w ≠ []) (i : Int) : att w i ≠ inv (att w (i + 1)) := by
  have hl : 0 < w.length := List.length_pos_iff.mpr hn
  have h1 := Int.emod_nonneg i (show (w.length : Int) ≠ 0 by omega)
  have h2 := Int.emod_lt_of_pos i (show (0 : Int) < (w.length : Int) by omega)
  have e0 : att w i = att w (((i % w.length).toNat : Nat) : Int) := by
    unfold att
    congr 2
    rw [Int.toNat_of_nonneg h1, Int.emod_emod_of_dvd _ (Int.dvd_refl _)]
  have e1 : att w (i + 1) = att w ((((i % w.length).toNat : Nat) : Int) + 1) := by
    unfold att
    congr 2
    rw [Int.toNat_of_nonneg h1]; simp
  rw [e0, e1]
  have hk : (i % w.length).toNat < w.length := by omega
  generalize (i % w.length).toNat = k at hk
  have g1 : w[k]? = some (w.getD k 0) := by rw [List.getD_eq_getElem?_getD, List.getElem?_eq_getElem hk]; rfl
  rw [att_nat hk]
  by_cases hk2 : k + 1 < w.length
  · have g2 : w[k + 1]? = some (w.getD (k + 1) 0) := by rw [List.getD_eq_getElem?_getD, List.getElem?_eq_getElem hk2]; rfl
    have : ((k : Int) + 1) = ((k + 1 : Nat) : Int) := by omega
    rw [this, att_nat hk2]
    exact plain_get hc.plain g1 g2
  · have e3 : att w ((k : Int) + 1) = w.getD 0 0 := by
      have : ((k : Int) + 1) = ((0 : Nat) : Int) + w.length := by omega
      rw [this, att_per, att_nat hl]
    rw [e3]
    refine cr_ends hc ?_ ?_
    · rw [List.getLast?_eq_getElem?, show w.length - 1 = k by omega]; exact g1
    · rw [List.head?_eq_getElem?, List.getD_eq_getElem?_getD, List.getElem?_eq_getElem hl]; rfl
def run (w : List Nat) (a : Int) (k : Nat) : List Nat := (List.range k).map fun (i : Nat) => att w (a + i)
theorem run_len (w : List Nat) (a : Int) (k : Nat) : (run w a k).length = k := by unfold run; rw [List.length_map, List.length_range]
theorem run_get {w : List Nat} {a : Int} {k i : Nat} (h : i < k) : (run w a k)[i]? = some (att w (a + i)) := by unfold run; rw [List.getElem?_map, List.getElem?_range h]; rfl
theorem run_app (w : List Nat) (a : Int) (k l : Nat) : run w a (k + l) = run w a k ++ run w (a + k) l := by
  unfold run
  rw [List.range_add, List.map_append, List.map_map]
  congr 1
  refine List.map_congr_left fun i _ => ?_
  show att w (a + ((k + i : Nat) : Int)) = _
  congr 1; omega
theorem run_one {w : List Nat} {a : Int} : run w a 1 = [att w a] := by
  unfold run; simp
theorem run_per (w : List Nat) (a : Int) (k : Nat) : run w (a + w.length) k = run w a k := by
  unfold run
  refine List.map_congr_left fun i _ => ?_
  rw [← att_per w (a + i)]; congr 1; omega
theorem run_w (w : List Nat) : run w 0 w.length = w := by
  apply List.ext_getElem?
  intro i
  by_cases h : i < w.length
  · rw [run_get h, Int.zero_add, att_nat h, List.getD_eq_getElem?_getD, List.getElem?_eq_getElem h]; rfl
  · rw [List.getElem?_eq_none (by rw [run_len]; omega), List.getElem?_eq_none (by omega)]
theorem run_pow (w : List Nat) : ∀ N : Nat, run w 0 (N * w.length) = (List.replicate N w).flatten
  | 0 => by simp [run]
  | N + 1 => by
    have e : run w (0 + ((w.length : Nat) : Int)) (N * w.length) = run w 0 (N * w.length) := run_per w 0 _
    rw [Nat.add_mul, Nat.one_mul, Nat.add_comm, run_app, run_w, e, run_pow w N, List.replicate_succ, List.flatten_cons]
theorem run_lw {w : List Nat} (hw : Lw w) (hn : w ≠ []) (a : Int) (k : Nat) : Lw (run w a k) := fun c hc => by
  obtain ⟨i, _, rfl⟩ := List.mem_map.mp hc
  exact hw _ (att_mem hn _)
theorem run_plain {w : List Nat} (hc : CR w) (hn : w ≠ []) (a : Int) (k : Nat) : Plain (run w a k) := plain_of_pairs fun i x y h1 h2 => by
  have hi : i + 1 < k := by have := (List.getElem?_eq_some_iff.mp h2).1; rwa [run_len] at this
  rw [run_get (by omega)] at h1
  rw [run_get hi] at h2
  cases h1; cases h2
  have := att_cr hc hn (a + i)
  intro z
  apply this
  rw [z]; congr 2; omega
theorem back_get {w : List Nat} {i : Nat} (h : i < w.length) : (back w)[i]? = some (inv (w.getD (w.length - 1 - i) 0)) := by
  unfold back
  rw [List.getElem?_map, List.getElem?_reverse h, List.getD_eq_getElem?_getD, List.getElem?_eq_getElem (by omega)]; rfl
theorem back_run_get {w : List Nat} {k i : Nat} (h : i < k) : (back (run w 0 k))[i]? = some (inv (att w ((k : Int) - 1 - i))) := by
  rw [back_get (by rw [run_len]; exact h), run_len, List.getD_eq_getElem?_getD, run_get (by omega)]
  congr 2
  show att w (0 + ((k - 1 - i : Nat) : Int)) = _
  congr 1; omega
end Z
namespace Z
open PySem PySem.Spec L2
theorem fold_head : ∀ (u : List Nat) {k : List Nat}, u.length < k.length → (u.foldl push k).head? = k.head?
  | [], _, _ => rfl
  | c :: u, k, h => by
    rw [List.length_cons] at h
    have hp : (push k c).head? = k.head? ∧ k.length ≤ (push k c).length + 1 := by
      unfold push
      split
      · match k, h with
        | a :: b :: t, _ => exact ⟨rfl, by simp⟩
        | [a], h => simp at h
        | [], h => simp at h
      · match k, h with
        | a :: t, _ => exact ⟨rfl, by simp⟩
        | [], h => simp at h
    rw [List.foldl_cons, fold_head u (by omega)]
    exact hp.1
theorem lay_fold {k : List Nat} (hk : Plain k) (u : List Nat) : lay (k ++ u) = u.foldl push k := by
  unfold lay
  rw [List.foldl_append]
  have : k.foldl push [] = k := lay_plain hk
  rw [this]
def hd (y : Nat) (k : List Nat) : Bool := decide (k.head? = some y)
theorem hd_step {y c : Nat} (hc : c ∈ lets) {k : List Nat} (h : hd y (push k c) ≠ hd y k) : (k = [] ∧ c = y) ∨ (k = [y] ∧ c = inv y) := by
  match k with
  | [] =>
    left
    refine ⟨rfl, ?_⟩
    have e : push [] c = [c] := rfl
    rw [e] at h
    unfold hd at h
    by_cases z : c = y
    · exact z
    · exfalso; apply h; simp [z]
  | [a] =>
    right
    by_cases z : some a = some (inv c)
    · have e : push [a] c = [] := by unfold push; rw [if_pos (by simpa using z)]; rfl
      rw [e] at h
      have za : a = inv c := Option.some.inj z
      have ya : a = y := by
        unfold hd at h
        by_cases q : a = y
        · exact q
        · exfalso; apply h; simp [q]
      subst ya
      exact ⟨rfl, by rw [za, inv_inv hc]⟩
    · have e : push [a] c = [a, c] := by unfold push; rw [if_neg (by simpa using z)]; rfl
      rw [e] at h
      exact absurd rfl h
  | a :: b :: t =>
    exfalso; apply h
    unfold hd
    have := fold_head [c] (k := a :: b :: t) (by simp)
    simp only [List.foldl_cons, List.foldl_nil] at this
    rw [this]
theorem all_one {α : Type} [DecidableEq α] {l : List α} {a : α} (nd : l.Nodup) (h : ∀ x ∈ l, x = a) : l.length ≤ 1 := nodup_len (m := [a]) nd fun x hx => by rw [h x hx]; simp
theorem filter_split {α : Type} (p : α → Bool) : ∀ l : List α, l.length = (l.filter p).length + (l.filter fun x => !p x).length
  | [] => rfl
  | a :: l => by
    have := filter_split p l
    rw [List.filter_cons, List.filter_cons, List.length_cons]
    cases p a <;> simp <;> omega
theorem count_bound {y : Nat} (hy : y ∈ lets) : ∀ (V : List Nat) (Hs : List (List Nat)), Lw V → Hs.Nodup → (∀ k ∈ Hs, Plain k ∧ Lw k ∧ hd y k ≠ hd y (V.foldl push k)) → Hs.length ≤ V.count y + V.count (inv y)
  | [], Hs, _, _, h => by
    cases Hs with
    | nil => exact Nat.zero_le _
    | cons k Hs => exact absurd rfl (h k (by simp)).2.2
  | c :: V, Hs, hV, nd, h => by
    have hc : c ∈ lets := hV c (by simp)
    have hVl : Lw V := fun x hx => hV x (by simp [hx])
    have e := filter_split (fun k => hd y (push k c) != hd y k) Hs
    have h1 : (Hs.filter fun k => hd y (push k c) != hd y k).length ≤ (if c = y then 1 else 0) + if c = inv y then 1 else 0 := by
      have hm : ∀ k ∈ Hs.filter (fun k => hd y (push k c) != hd y k), (k = [] ∧ c = y) ∨ (k = [y] ∧ c = inv y) := fun k hk => hd_step hc (by simpa using (List.mem_filter.mp hk).2)
      have nd1 := nd.filter fun k => hd y (push k c) != hd y k
      generalize Hs.filter (fun k => hd y (push k c) != hd y k) = l at hm nd1
      by_cases z1 : c = y
      · rw [if_pos z1]
        have z2 : c ≠ inv y := fun z => inv_ne hy (z ▸ z1)
        have := all_one (a := []) nd1 fun x hx => (hm x hx).elim (·.1) fun q => absurd q.2 z2
        omega
      · by_cases z2 : c = inv y
        · rw [if_pos z2]
          have := all_one (a := [y]) nd1 fun x hx => (hm x hx).elim (fun q => absurd q.2 z1) (·.1)
          omega
        · cases l with
          | nil => exact Nat.zero_le _
          | cons k l =>
            rcases hm k (by simp) with q | q
            · exact absurd q.2 z1
            · exact absurd q.2 z2
    have h2 := count_bound hy V ((Hs.filter fun k => !(hd y (push k c) != hd y k)).map fun k => push k c) hVl (nodup_map_on (fun a ha b hb q => by
      have ha := h a (List.mem_filter.mp ha).1
      have hb := h b (List.mem_filter.mp hb).1
      rw [← push_push hc ha.1, q, push_push hc hb.1]) (nd.filter _)) fun k hk => by
        obtain ⟨a, ha, rfl⟩ := List.mem_map.mp hk
        obtain ⟨m1, m2⟩ := List.mem_filter.mp ha
        obtain ⟨i1, i2, i3⟩ := h a m1
        have m2 : hd y (push a c) = hd y a := by simpa using m2
        exact ⟨plain_push i1, lw_push i2 hc, by rw [m2]; exact i3⟩
    rw [List.length_map] at h2
    rw [List.count_cons, List.count_cons]
    have b1 : (if (c == y) = true then 1 else 0) = if c = y then 1 else 0 := by simp only [beq_iff_eq]
    have b2 : (if (c == inv y) = true then 1 else 0) = if c = inv y then 1 else 0 := by simp only [beq_iff_eq]
    rw [b1, b2]
    omega
theorem lay_cancel (u x : List Nat) {v : List Nat} (hv : Lw v) : lay (u ++ (back v ++ v) ++ x) = lay (u ++ x) := by
  have := lay_mid2 u x (w := back v ++ v) ((lw_back hv).app hv)
  rw [lay_back_left hv, List.append_nil] at this
  exact this.symm
theorem lay_cancel' (u x : List Nat) {v : List Nat} (hv : Lw v) : lay (u ++ (v ++ back v) ++ x) = lay (u ++ x) := by
  have := lay_mid2 u x (w := v ++ back v) (hv.app (lw_back hv))
  rw [lay_back_right hv, List.append_nil] at this
  exact this.symm
theorem plain_glue {g v : List Nat} {x : Nat} (h1 : Plain (g ++ [x])) (h2 : Plain (x :: v)) : Plain (g ++ x :: v) := by
  cases v with
  | nil => exact h1
  | cons y t => have := plain_join h1 (plain_tail h2) h2.1; simpa using this
def kk (T : List (List Nat)) (t g : List Nat) : List Nat := lay (t ++ F T g)
def ps (T : List (List Nat)) (t : List Nat) (y : Nat) (g : List Nat) : Bool := hd y (kk T t g)
def chi (T : List (List Nat)) (t : List Nat) (y K : Nat) : Wl := fun u => ps T t y ((List.range (K + 1)).map u)
theorem dt_chi (T : List (List Nat)) (t : List Nat) (y K : Nat) : dt (K + 1) (chi T t y K) := fun f g e => by
  unfold chi
  rw [List.map_congr_left fun i hi => e i (List.mem_range.mp hi)]
section
variable {n : Int} (h : 1 ≤ n) (h' : n ≤ 4) {T T' : List (List Nat)} (hT : Tl T) (hT' : Tl T') (hinv : thn T T' = same n) {t : List Nat} (ht : Lw t) {y : Nat}
include h h' hT hT' hinv
theorem rt_there_back {g : List Nat} (hg : ∀ c ∈ g, c ∈ Ln n) : rt T' (rt T g) = lay g := by
  rw [← rt_thn hT hT', hinv]
  unfold rt
  rw [F_same h h' hg]
include ht
theorem kk_rt (g : List Nat) : lay (back t ++ kk T t g) = rt T g := by
  unfold kk rt
  rw [lay_right _ (ht.app (lw_F hT g)), ← List.append_assoc]
  have := lay_cancel [] (F T g) ht
  simpa using this
theorem stab : ∃ K, ∀ g, (∀ c ∈ g, c ∈ Ln n) → Plain g → K + 1 ≤ g.length → ps T t y g = ps T t y (g.take (K + 1)) := by
  have hb : ∀ (U : List (List Nat)), ∀ w ∈ U, w.length ≤ (U.map List.length).sum := fun U => by
    induction U with
    | nil => intro w hw; cases hw
    | cons a U ih =>
      intro w hw
      rw [List.map_cons, List.sum_cons]
      rcases List.mem_cons.mp hw with rfl | hw
      · omega
      · have := ih w hw; omega
  have hbT := hb T
  have hbT' := hb T'
  generalize (T.map List.length).sum = b at hbT
  generalize (T'.map List.length).sum = b' at hbT'
  refine ⟨b' * (t.length + b + 1), fun g hg hp hl => ?_⟩
  have far : ∀ i, b' * (t.length + b + 1) + 1 ≤ i → i ≤ g.length → b < (kk T t (g.take i)).length := fun i h1 h2 => by
    have hgi : ∀ c ∈ g.take i, c ∈ Ln n := fun c hc => hg c (List.mem_of_mem_take hc)
    have e1 : rt T' (rt T (g.take i)) = g.take i := by
      rw [rt_there_back h h' hT hT' hinv hgi]
      exact lay_plain (plain_left (t := g.drop i) (by rw [List.take_append_drop]; exact hp))
    have e2 := rt_len hbT' (rt T (g.take i))
    rw [e1, List.length_take] at e2
    have e3 := lay_len (back t ++ kk T t (g.take i))
    rw [kk_rt h h' hT hT' hinv ht, List.length_append, back_len] at e3
    have e4 : b' * (t.length + b + 1) < b' * (rt T (g.take i)).length := by omega
    have e5 := Nat.lt_of_mul_lt_mul_left e4
    omega
  have step : ∀ k, b' * (t.length + b + 1) + 1 + k ≤ g.length → ps T t y (g.take (b' * (t.length + b + 1) + 1 + k)) = ps T t y (g.take (b' * (t.length + b + 1) + 1)) := by
    intro k
    induction k with
    | zero => intro _; rfl
    | succ k ih =>
      intro hk
      rw [← ih (by omega)]
      have fr := far (b' * (t.length + b + 1) + 1 + k) (by omega) (by omega)
      rw [show b' * (t.length + b + 1) + 1 + (k + 1) = (b' * (t.length + b + 1) + 1 + k) + 1 by omega] at hk ⊢
      generalize b' * (t.length + b + 1) + 1 + k = i at hk fr
      have hi : i < g.length := by omega
      have eg : g[i]? = some g[i] := List.getElem?_eq_getElem hi
      have e1 : g.take (i + 1) = g.take i ++ [g[i]] := take_snoc eg
      show ps T t y (g.take (i + 1)) = _
      unfold ps hd
      have e2 : kk T t (g.take (i + 1)) = (sub T g[i]).foldl push (kk T t (g.take i)) := by
        unfold kk
        rw [← lay_fold (plain_lay _), e1, F_app, F_one, lay_left, List.append_assoc]
      rw [e2, fold_head _ (Nat.lt_of_le_of_lt (sub_len hbT _) fr)]
  have := step (g.length - (b' * (t.length + b + 1) + 1)) (by omega)
  rw [show b' * (t.length + b + 1) + 1 + (g.length - (b' * (t.length + b + 1) + 1)) = g.length by omega, List.take_length] at this
  exact this
end
theorem att_mul (w : List Nat) (i : Int) : ∀ s : Nat, att w (i + ((s * w.length : Nat) : Int)) = att w i
  | 0 => by congr 1; simp
  | s + 1 => by
    rw [← att_mul w i s, ← att_per w (i + ((s * w.length : Nat) : Int))]
    congr 1
    rw [Nat.add_mul, Nat.one_mul]; omega
section
variable {w : List Nat} (hw : Lw w) (hc : CR w) (hn : w ≠ [])
include hw hc hn
theorem path1 {g : List Nat} {t0 t : Nat} (hg : Plain (g ++ back (run w 0 t0))) (ht : t ≤ t0) : lay ((g ++ back (run w 0 t0)) ++ run w 0 t) = g ++ back (run w t (t0 - t)) := by
  have e : run w 0 t0 = run w 0 t ++ run w t (t0 - t) := by
    have := run_app w 0 t (t0 - t)
    rw [Nat.add_sub_cancel' ht, Int.zero_add] at this
    exact this
  have e2 : (g ++ back (run w 0 t0)) ++ run w 0 t = (g ++ back (run w t (t0 - t))) ++ (back (run w 0 t) ++ run w 0 t) ++ [] := by rw [e, back_app]; simp
  rw [e2, lay_cancel _ _ (run_lw hw hn 0 t), List.append_nil]
  refine lay_plain (plain_left (t := back (run w 0 t)) ?_)
  rw [e, back_app, ← List.append_assoc] at hg
  exact hg
theorem path2 {g : List Nat} {t0 t : Nat} (hg : ∀ k, Plain (g ++ run w t0 k)) (ht : t0 ≤ t) : lay ((g ++ back (run w 0 t0)) ++ run w 0 t) = g ++ run w t0 (t - t0) := by
  have e : run w 0 t = run w 0 t0 ++ run w t0 (t - t0) := by
    have := run_app w 0 t0 (t - t0)
    rw [Nat.add_sub_cancel' ht, Int.zero_add] at this
    exact this
  have e2 : (g ++ back (run w 0 t0)) ++ run w 0 t = g ++ (back (run w 0 t0) ++ run w 0 t0) ++ run w t0 (t - t0) := by rw [e]; simp
  rw [e2, lay_cancel _ _ (run_lw hw hn 0 t0)]
  exact lay_plain (hg _)
theorem path_inj {g1 g2 : List Nat} {t1 t2 : Nat} (p1 : Plain (g1 ++ back (run w 0 t1))) (q1 : ∀ k, Plain (g1 ++ run w t1 k)) (p2 : Plain (g2 ++ back (run w 0 t2))) (q2 : ∀ k, Plain (g2 ++ run w t2 k)) (e : g1 ++ back (run w 0 t1) = g2 ++ back (run w 0 t2)) : g1 = g2 ∧ t1 = t2 := by
  have a1 := path2 hw hc hn (t := t1) q1 (Nat.le_refl _)
  have a2 := path2 hw hc hn (t := t2) q2 (Nat.le_refl _)
  have z : ∀ (a : Int), run w a 0 = [] := fun a => rfl
  rw [Nat.sub_self, z, List.append_nil] at a1 a2
  have b1 : g1.length = g2.length + (t1 - t2) + (t2 - t1) := by
    rw [e] at a1
    rcases Nat.le_total t1 t2 with l | l
    · rw [path1 hw hc hn p2 l] at a1
      rw [← a1, List.length_append, back_len, run_len]; omega
    · rw [path2 hw hc hn q2 l] at a1
      rw [← a1, List.length_append, run_len]; omega
  have b2 : g2.length = g1.length + (t1 - t2) + (t2 - t1) := by
    rw [← e] at a2
    rcases Nat.le_total t2 t1 with l | l
    · rw [path1 hw hc hn p1 l] at a2
      rw [← a2, List.length_append, back_len, run_len]; omega
    · rw [path2 hw hc hn q1 l] at a2
      rw [← a2, List.length_append, run_len]; omega
  have et : t1 = t2 := by omega
  subst et
  refine ⟨?_, rfl⟩
  rw [← a1, ← a2, e]
end
theorem pow_count (m : List Nat) (y : Nat) : ∀ N : Nat, (List.replicate N m).flatten.count y = N * m.count y
  | 0 => by simp
  | N + 1 => by rw [List.replicate_succ, List.flatten_cons, List.count_append, pow_count m y N, Nat.add_mul, Nat.one_mul]; omega
theorem F_pow (T : List (List Nat)) (w : List Nat) : ∀ N : Nat, F T (List.replicate N w).flatten = (List.replicate N (F T w)).flatten
  | 0 => rfl
  | N + 1 => by rw [List.replicate_succ, List.flatten_cons, F_app, F_pow T w N, List.replicate_succ, List.flatten_cons]
theorem lw_pow {m : List Nat} (hm : Lw m) (N : Nat) : Lw (List.replicate N m).flatten := fun c hc => by
  obtain ⟨l, hl, hc⟩ := List.mem_flatten.mp hc
  rw [(List.mem_replicate.mp hl).2] at hc
  exact hm c hc
/-- a power of a word, its ends outside -/
theorem lay_pow {u p m : List Nat} (hu : Lw u) (hp : Lw p) (hm : Lw m) (e : lay u = p ++ m ++ back p) : ∀ N : Nat, lay (List.replicate N u).flatten = lay (p ++ (List.replicate N m).flatten ++ back p)
  | 0 => by
    have := lay_cancel' [] [] hp
    simpa using this.symm
  | N + 1 => by
    rw [List.replicate_succ, List.flatten_cons, ← lay_right _ (lw_pow hu N), lay_pow hu hp hm e N, lay_right _ ((hp.app (lw_pow hm N)).app (lw_back hp)), ← lay_left, e, List.replicate_succ, List.flatten_cons]
    have := lay_cancel (p ++ m) ((List.replicate N m).flatten ++ back p) hp
    simpa using this
end Z
namespace Z
open PySem PySem.Spec L2
theorem run_succ (w : List Nat) (a : Int) (k : Nat) : run w a (k + 1) = att w a :: run w (a + 1) k := by
  rw [Nat.add_comm, run_app, run_one]; rfl
theorem back_run_succ (w : List Nat) (k : Nat) : back (run w 0 (k + 1)) = inv (att w (k : Int)) :: back (run w 0 k) := by
  rw [run_app, run_one, back_app, Int.zero_add]; rfl
theorem lay_F_lay {T : List (List Nat)} (hT : Tl T) {v : List Nat} (hv : Lw v) (t : List Nat) : lay (t ++ F T (lay v)) = lay (t ++ F T v) := by
  rw [← lay_right _ (lw_F hT _), ← lay_right _ (lw_F hT v)]
  have : lay (F T (lay v)) = lay (F T v) := rt_lay hT hv
  rw [this]
theorem big_bound {X c D r : Nat} (h : ∀ M, X * M ≤ D + (M + r) * c) : X ≤ c := by
  by_cases z : X ≤ c
  · exact z
  · exfalso
    have h1 := h (D + r * c + 1)
    have h2 : (c + 1) * (D + r * c + 1) ≤ X * (D + r * c + 1) := Nat.mul_le_mul_right _ (by omega)
    rw [Nat.add_mul c 1, Nat.one_mul] at h2
    rw [Nat.add_mul _ r c, Nat.mul_comm (D + r * c + 1) c] at h1
    omega
section
variable {n : Int} (h : 1 ≤ n) (h' : n ≤ 4) {T T' : List (List Nat)} (hT : Tl T) (hT' : Tl T') (hinv : thn T T' = same n) {t : List Nat} (ht : Lw t) {y : Nat} (hy : y ∈ lets) {K : Nat} (st : ∀ g, (∀ c ∈ g, c ∈ Ln n) → Plain g → K + 1 ≤ g.length → ps T t y g = ps T t y (g.take (K + 1)))
  {w : List Nat} (hw : ∀ c ∈ w, c ∈ Ln n) (hc : CR w) (hn : w ≠ [])
include h h' hT hT' hinv ht hy st hw hc hn
theorem xw : (lns (Ln n) w (K + 1) 0 (chi T t y K)).length ≤ (mid (rt T w)).count y + (mid (rt T w)).count (inv y) := by
  have hwl : Lw w := fun c hc => Ln_lw n c (hw c hc)
  have hm0 : 0 < w.length := List.length_pos_iff.mpr hn
  obtain ⟨p, hp1, hp2, hp3⟩ := wound _ rfl (lw_rt hT w) (plain_lay _)
  have hql := lw_mid (lw_rt hT w) (plain_lay (F T w))
  generalize mid (rt T w) = q at hp1 hp2 hql
  refine big_bound (D := 4 * p.length) (r := 2 * (K + 1) + 1) fun M => ?_
  -- the places
  have facts : ∀ (pr : List Nat × Nat) (i : Nat), pr ∈ lns (Ln n) w (K + 1) 0 (chi T t y K) → (∀ c ∈ pr.1 ++ back (run w 0 ((K + 1 + i) * w.length + pr.2)), c ∈ Ln n) ∧ Plain (pr.1 ++ back (run w 0 ((K + 1 + i) * w.length + pr.2))) ∧ (∀ k, Plain (pr.1 ++ run w (((K + 1 + i) * w.length + pr.2 : Nat) : Int) k)) ∧
      (∀ c ∈ pr.1, c ∈ Ln n) ∧ pr.2 < w.length ∧ chi T t y K (app pr.1 (Fw w (pr.2 : Int))) ≠ chi T t y K (app pr.1 (Bw w (pr.2 : Int))) := by
    rintro ⟨g, j⟩ i hpr
    obtain ⟨h1, h2, h3, h4, h5⟩ := lns_mem hpr
    have hgl : Lw g := fun c hc => Ln_lw n c (h2 c hc)
    have hF : Fw w (j : Int) 0 ∈ lets := by rw [Fw0]; exact hwl _ (att_mem hn _)
    have eB : Bw w (j : Int) 0 = inv (att w ((j : Int) - 1)) := by
      have := Bw0 w ((j : Int) - 1)
      rwa [Int.sub_add_cancel] at this
    have hB : Bw w (j : Int) 0 ∈ lets := by rw [eB]; exact inv_mem (hwl _ (att_mem hn _))
    have p3 := Pl.plain (hgl.app (Lw.one hF)) h3
    have p4 := Pl.plain (hgl.app (Lw.one hB)) h4
    have hs : 1 ≤ (K + 1 + i) * w.length := Nat.mul_pos (by omega) hm0
    refine ⟨fun c hc => ?_, ?_, fun k => ?_, h2, h1, h5⟩
    · rcases List.mem_append.mp hc with hc | hc
      · exact h2 c hc
      · unfold back at hc
        obtain ⟨d, hd, rfl⟩ := List.mem_map.mp hc
        obtain ⟨i, _, rfl⟩ := List.mem_map.mp (List.mem_reverse.mp hd)
        exact Ln_inv h h' (hw _ (att_mem hn _))
    · obtain ⟨k, hk⟩ : ∃ k, (K + 1 + i) * w.length + j = k + 1 := ⟨(K + 1 + i) * w.length + j - 1, by omega⟩
      show Plain (g ++ back (run w 0 ((K + 1 + i) * w.length + j)))
      rw [hk, back_run_succ]
      refine plain_glue ?_ ?_
      · have : att w (k : Int) = att w ((j : Int) - 1) := by
          rw [← att_mul w ((j : Int) - 1) (K + 1 + i)]; congr 1; omega
        rw [this, ← eB]; exact p4
      · rw [← back_run_succ]; exact plain_back (run_lw hwl hn _ _) (run_plain hc hn _ _)
    · show Plain (g ++ run w (((K + 1 + i) * w.length + j : Nat) : Int) k)
      cases k with
      | zero =>
        have : run w (((K + 1 + i) * w.length + j : Nat) : Int) 0 = [] := rfl
        rw [this, List.append_nil]; exact plain_left p3
      | succ k =>
        rw [run_succ]
        refine plain_glue ?_ ?_
        · have : att w (((K + 1 + i) * w.length + j : Nat) : Int) = Fw w (j : Int) 0 := by
            rw [Fw0, ← att_mul w (j : Int) (K + 1 + i)]; congr 1; omega
          rw [this]; exact p3
        · rw [← run_succ]; exact run_plain hc hn _ _
  have hLN := lns_nodup (w := w) (Ln_nodup n) (K + 1) 0 (chi T t y K)
  generalize lns (Ln n) w (K + 1) 0 (chi T t y K) = LN at facts hLN
  let TL : List ((List Nat × Nat) × Nat) := LN.flatMap fun pr => (List.range M).map fun i => (pr, i)
  let e : (List Nat × Nat) × Nat → List Nat := fun z => z.1.1 ++ back (run w 0 ((K + 1 + z.2) * w.length + z.1.2))
  have hTL : ∀ z ∈ TL, z.1 ∈ LN ∧ z.2 < M := fun z hz => by
    obtain ⟨pr, hpr, hz⟩ := List.mem_flatMap.mp hz
    obtain ⟨i, hi, rfl⟩ := List.mem_map.mp hz
    exact ⟨hpr, List.mem_range.mp hi⟩
  have hlen : TL.length = LN.length * M := by
    show (LN.flatMap fun pr => (List.range M).map fun i => (pr, i)).length = _
    rw [List.length_flatMap]
    have : (LN.map fun a => ((List.range M).map fun i => (a, i)).length) = LN.map fun _ => M := List.map_congr_left fun a _ => by simp
    rw [this]
    clear this hTL hLN facts
    induction LN with
    | nil => simp
    | cons a LN ih => rw [List.map_cons, List.sum_cons, ih, List.length_cons, Nat.add_mul, Nat.one_mul]; omega
  have hnd : TL.Nodup := nodup_flatMap hLN (fun a _ => nodup_map_on (fun x _ y _ q => (Prod.mk.inj q).2) List.nodup_range) fun a _ b _ hab x hx hx2 => by
    obtain ⟨i, _, rfl⟩ := List.mem_map.mp hx
    obtain ⟨j, _, q⟩ := List.mem_map.mp hx2
    exact hab (Prod.mk.inj q).1.symm
  have key := count_bound hy (p ++ (List.replicate (M + (2 * (K + 1) + 1)) q).flatten ++ back p) (TL.map fun z => kk T t (e z)) ((hp3.app (lw_pow hql _)).app (lw_back hp3)) (nodup_map_on (fun a ha b hb q => ?_) hnd) fun k hk => ?_
  · rw [List.length_map, hlen] at key
    simp only [List.count_append, pow_count] at key
    have c1 := List.count_le_length (a := y) (l := p)
    have c2 := List.count_le_length (a := inv y) (l := p)
    have c3 := List.count_le_length (a := y) (l := back p)
    have c4 := List.count_le_length (a := inv y) (l := back p)
    rw [back_len] at c3 c4
    rw [Nat.mul_add]
    omega
  · obtain ⟨ha1, ha2⟩ := hTL a ha
    obtain ⟨hb1, hb2⟩ := hTL b hb
    obtain ⟨a1, a2, a3, a4, a5, _⟩ := facts a.1 a.2 ha1
    obtain ⟨b1, b2, b3, b4, b5, _⟩ := facts b.1 b.2 hb1
    have q : kk T t (e a) = kk T t (e b) := q
    have q1 : rt T (e a) = rt T (e b) := by rw [← kk_rt h h' hT hT' hinv ht, ← kk_rt h h' hT hT' hinv ht (e b), q]
    have q2 : e a = e b := by
      have := congrArg (rt T') q1
      rw [rt_there_back h h' hT hT' hinv a1, rt_there_back h h' hT hT' hinv b1, lay_plain a2, lay_plain b2] at this
      exact this
    obtain ⟨z1, z2⟩ := path_inj hwl hc hn a2 a3 b2 b3 q2
    have z3 : a.1.2 = b.1.2 := by
      have := congrArg (· % w.length) z2
      simp only [Nat.mul_add_mod_self_right, Nat.mod_eq_of_lt a5, Nat.mod_eq_of_lt b5] at this
      exact this
    have z4 : a.2 = b.2 := by
      rw [z3] at z2
      have := Nat.eq_of_mul_eq_mul_right hm0 (Nat.add_right_cancel z2)
      omega
    exact Prod.ext (Prod.ext z1 z3) z4
  · obtain ⟨z, hz, rfl⟩ := List.mem_map.mp hk
    obtain ⟨hz1, hz2⟩ := hTL z hz
    obtain ⟨a1, a2, a3, a4, a5, a6⟩ := facts z.1 z.2 hz1
    have hel : Lw (e z) := fun c hc => Ln_lw n c (a1 c hc)
    refine ⟨plain_lay _, lw_lay (ht.app (lw_F hT _)), ?_⟩
    have hN : (K + 1 + z.2) * w.length + z.1.2 + (K + 1) ≤ (M + (2 * (K + 1) + 1)) * w.length := by
      have e1 : (M + (2 * (K + 1) + 1)) = (K + 1 + z.2) + 1 + (M - z.2 + (K + 1)) := by omega
      have e2 : ((K + 1 + z.2) + 1 + (M - z.2 + (K + 1))) * w.length = (K + 1 + z.2) * w.length + w.length + (M - z.2 + (K + 1)) * w.length := by rw [Nat.add_mul _ (M - z.2 + (K + 1)), Nat.add_mul _ 1, Nat.one_mul]
      rw [e1, e2]
      have : K + 1 ≤ (M - z.2 + (K + 1)) * w.length := Nat.le_trans (Nat.le_trans (by omega : K + 1 ≤ M - z.2 + (K + 1)) (Nat.le_of_eq (Nat.mul_one _).symm)) (Nat.mul_le_mul_left _ hm0)
      omega
    have hsK : K + 1 ≤ (K + 1 + z.2) * w.length := Nat.le_trans (Nat.le_trans (by omega : K + 1 ≤ K + 1 + z.2) (Nat.le_of_eq (Nat.mul_one _).symm)) (Nat.mul_le_mul_left _ hm0)
    have eV : (p ++ (List.replicate (M + (2 * (K + 1) + 1)) q).flatten ++ back p).foldl push (kk T t (e z)) = kk T t (z.1.1 ++ run w (((K + 1 + z.2) * w.length + z.1.2 : Nat) : Int) ((M + (2 * (K + 1) + 1)) * w.length - ((K + 1 + z.2) * w.length + z.1.2))) := by
      rw [← path2 hwl hc hn (g := z.1.1) (t0 := (K + 1 + z.2) * w.length + z.1.2) (t := (M + (2 * (K + 1) + 1)) * w.length) a3 (by omega)]
      obtain ⟨E, hE⟩ : ∃ E, E = z.1.1 ++ back (run w 0 ((K + 1 + z.2) * w.length + z.1.2)) := ⟨_, rfl⟩
      have hel : Lw E := hE ▸ hel
      show List.foldl push (lay (t ++ F T (z.1.1 ++ back (run w 0 ((K + 1 + z.2) * w.length + z.1.2))))) _ = lay (t ++ F T (lay (z.1.1 ++ back (run w 0 ((K + 1 + z.2) * w.length + z.1.2)) ++ _)))
      rw [← hE]
      rw [← lay_fold (plain_lay _), lay_F_lay hT (hel.app (run_lw hwl hn _ _)), F_app, run_pow, F_pow, lay_left, ← lay_right _ ((hp3.app (lw_pow hql _)).app (lw_back hp3)), ← lay_pow (lw_F hT w) hp3 hql hp1, lay_right _ (lw_pow (lw_F hT w) _), List.append_assoc]
    rw [eV]
    have r1 : hd y (kk T t (e z)) = chi T t y K (app z.1.1 (Bw w (z.1.2 : Int))) := by
      show ps T t y (e z) = _
      rw [st _ a1 a2 (by show K + 1 ≤ (z.1.1 ++ back (run w 0 _)).length; rw [List.length_append, back_len, run_len]; omega)]
      unfold chi
      congr 1
      refine app_take fun i hi => ?_
      rw [back_run_get (by omega)]
      show some (inv (att w _)) = some (inv (att w _))
      congr 2
      rw [← att_mul w ((z.1.2 : Int) - 1 - i) (K + 1 + z.2)]
      congr 1; omega
    have r2 : hd y (kk T t (z.1.1 ++ run w (((K + 1 + z.2) * w.length + z.1.2 : Nat) : Int) ((M + (2 * (K + 1) + 1)) * w.length - ((K + 1 + z.2) * w.length + z.1.2)))) = chi T t y K (app z.1.1 (Fw w (z.1.2 : Int))) := by
      show ps T t y _ = _
      rw [st _ (fun c hc => by
        rcases List.mem_append.mp hc with hc | hc
        · exact a4 c hc
        · obtain ⟨i, _, rfl⟩ := List.mem_map.mp hc
          exact hw _ (att_mem hn _)) (a3 _) (by rw [List.length_append, run_len]; omega)]
      unfold chi
      congr 1
      refine app_take fun i hi => ?_
      rw [run_get (by omega)]
      show some (att w _) = some (att w _)
      congr 1
      rw [← att_mul w ((z.1.2 : Int) + i) (K + 1 + z.2)]
      congr 1; omega
    rw [r1, r2]
    exact Ne.symm a6
end
end Z
namespace Z
open PySem PySem.Spec L2
theorem plain_glue3 {a m b : List Nat} (hm : m ≠ []) (h1 : Plain (a ++ m)) (h2 : Plain (m ++ b)) : Plain (a ++ m ++ b) := by
  obtain ⟨m', z, rfl⟩ : ∃ m' z, m = m' ++ [z] := ⟨m.dropLast, m.getLast hm, (List.dropLast_concat_getLast hm).symm⟩
  cases b with
  | nil => simpa using h1
  | cons y t =>
    have h3 : Plain ((a ++ m') ++ [z]) := by simpa using h1
    have h4 : Plain (m' ++ z :: y :: t) := by simpa using h2
    have h5 : Plain (y :: t) := plain_tail (plain_right h4)
    have := plain_join h3 h5 (plain_at h4)
    simpa using this
theorem cr_pow_plain {m : List Nat} (hc : CR m) (N : Nat) : Plain (List.replicate N m).flatten := by
  by_cases hn : m = []
  · subst hn
    have : (List.replicate N ([] : List Nat)).flatten = [] := by induction N with
      | zero => rfl
      | succ N ih => rw [List.replicate_succ, List.flatten_cons, ih]; rfl
    rw [this]; trivial
  · rw [← run_pow]; exact run_plain hc hn _ _
theorem pow_snoc (m : List Nat) : ∀ N : Nat, (List.replicate (N + 1) m).flatten = (List.replicate N m).flatten ++ m
  | 0 => by simp
  | N + 1 => by
    have e := pow_snoc m N
    have e3 : (List.replicate (N + 1) m).flatten = m ++ (List.replicate N m).flatten := by rw [List.replicate_succ, List.flatten_cons]
    have e2 : (List.replicate (N + 1 + 1) m).flatten = m ++ (List.replicate (N + 1) m).flatten := by rw [List.replicate_succ, List.flatten_cons]
    rw [e2]
    conv => lhs; rw [e]
    rw [← List.append_assoc, ← e3]
theorem pow_end {m b : List Nat} (hn : m ≠ []) (hc : CR m) (h : Plain (m ++ b)) (N : Nat) : Plain ((List.replicate (N + 1) m).flatten ++ b) := by
  rw [pow_snoc]
  refine plain_glue3 hn ?_ h
  rw [← pow_snoc]; exact cr_pow_plain hc _
theorem cr_back {m : List Nat} (hl : Lw m) (hc : CR m) : CR (back m) := by
  show Plain (back m ++ back m)
  rw [← back_app]; exact plain_back (hl.app hl) hc
theorem lw_cons {c : Nat} {v : List Nat} (h : Lw (c :: v)) : c ∈ lets ∧ Lw v := ⟨h c (by simp), fun x hx => h x (by simp [hx])⟩
/-- a wall that parts both ends of a letter -/
theorem apart {T : List (List Nat)} (hT : Tl T) {x y : Nat} (hx : x ∈ lets) {p m v1 v2 : List Nat} (hp : Lw p) (hm : Lw m) (hc : CR m) (e : rt T [x] = p ++ m ++ back p) (em : m = v1 ++ y :: v2) (K : Nat) :
    chi T (back (p ++ v1)) y K (kst x) ≠ chi T (back (p ++ v1)) y K (kst (inv x)) := by
  have hmn : m ≠ [] := by rw [em]; simp
  have hv1 : Lw v1 := by rw [em] at hm; exact hm.left
  have hy : y ∈ lets := by rw [em] at hm; exact hm y (by simp)
  have hqp : Plain (p ++ m ++ back p) := by rw [← e]; exact plain_lay _
  have mk : ∀ c, (List.range (K + 1)).map (kst c) = List.replicate (K + 1) c := fun c => by
    apply List.ext_getElem <;> simp [kst]
  have fl : ∀ c, F T (List.replicate (K + 1) c) = (List.replicate (K + 1) (sub T c)).flatten := fun c => by
    have : ∀ N, F T (List.replicate N c) = (List.replicate N (sub T c)).flatten := fun N => by
      induction N with
      | zero => rfl
      | succ N ih => rw [List.replicate_succ, List.replicate_succ, List.flatten_cons, ← ih]; simp [F]
    exact this _
  have es : lay (sub T x) = p ++ m ++ back p := by rw [← e]; unfold rt; rw [F_one]
  have esi : lay (sub T (inv x)) = p ++ back m ++ back p := by
    rw [sub_inv hT hx, ← back_lay (lw_sub hT x), es, back_app, back_app, back_back hp, List.append_assoc]
  have hx2 : ps T (back (p ++ v1)) y (List.replicate (K + 1) x) = true := by
    unfold ps kk
    rw [fl, ← lay_right _ (lw_pow (lw_sub hT x) _), lay_pow (lw_sub hT x) hp hm es, lay_right _ ((hp.app (lw_pow hm _)).app (lw_back hp)), back_app]
    have e1 : back v1 ++ back p ++ (p ++ (List.replicate (K + 1) m).flatten ++ back p) = back v1 ++ (back p ++ p) ++ ((List.replicate (K + 1) m).flatten ++ back p) := by simp
    rw [e1, lay_cancel _ _ hp]
    have e2 : (List.replicate (K + 1) m).flatten ++ back p = v1 ++ (y :: (v2 ++ (List.replicate K m).flatten ++ back p)) := by
      rw [List.replicate_succ, List.flatten_cons]
      have : m ++ (List.replicate K m).flatten ++ back p = (v1 ++ y :: v2) ++ (List.replicate K m).flatten ++ back p := by rw [← em]
      rw [this]; simp
    have hpl : Plain ((List.replicate (K + 1) m).flatten ++ back p) := pow_end hmn hc (plain_right (s := p) (by rw [← List.append_assoc]; exact hqp)) K
    have e3 : back v1 ++ ((List.replicate (K + 1) m).flatten ++ back p) = [] ++ (back v1 ++ v1) ++ (y :: (v2 ++ (List.replicate K m).flatten ++ back p)) := by rw [e2]; simp
    rw [e3, lay_cancel _ _ hv1, List.nil_append]
    rw [e2] at hpl
    rw [lay_plain (plain_right hpl)]
    unfold hd; simp
  have hx3 : ps T (back (p ++ v1)) y (List.replicate (K + 1) (inv x)) = false := by
    unfold ps kk
    rw [fl, ← lay_right _ (lw_pow (lw_sub hT (inv x)) _), lay_pow (lw_sub hT (inv x)) hp (lw_back hm) esi, lay_right _ ((hp.app (lw_pow (lw_back hm) _)).app (lw_back hp)), back_app]
    have e1 : back v1 ++ back p ++ (p ++ (List.replicate (K + 1) (back m)).flatten ++ back p) = back v1 ++ (back p ++ p) ++ ((List.replicate (K + 1) (back m)).flatten ++ back p) := by simp
    rw [e1, lay_cancel _ _ hp]
    have hbn : back m ≠ [] := fun z => hmn (by have := congrArg List.length z; rw [back_len] at this; exact List.eq_nil_of_length_eq_zero this)
    have hpm : Plain (back m ++ back p) := by
      rw [← back_app]; exact plain_back (hp.app hm) (plain_left hqp)
    have hpl := pow_end hbn (cr_back hm hc) hpm K
    have hmm : Plain (m ++ v1 ++ [y]) := by
      have h1 : Plain (m ++ m) := hc
      have h2 : m ++ m = (m ++ v1 ++ [y]) ++ v2 := by
        have : m ++ m = m ++ (v1 ++ y :: v2) := by rw [← em]
        rw [this]; simp
      rw [h2] at h1; exact plain_left h1
    have hvm : Plain (back v1 ++ back m) := by rw [← back_app]; exact plain_back (hm.app hv1) (plain_left hmm)
    have e4 : (List.replicate (K + 1) (back m)).flatten ++ back p = back m ++ ((List.replicate K (back m)).flatten ++ back p) := by rw [List.replicate_succ, List.flatten_cons, List.append_assoc]
    rw [e4] at hpl ⊢
    have hall : Plain (back v1 ++ (back m ++ ((List.replicate K (back m)).flatten ++ back p))) := by
      rw [← List.append_assoc]; exact plain_glue3 hbn hvm hpl
    rw [lay_plain hall]
    -- its first letter
    obtain ⟨u, z, hz⟩ : ∃ u z, m ++ v1 = u ++ [z] := ⟨(m ++ v1).dropLast, (m ++ v1).getLast (by simp [hmn]), (List.dropLast_concat_getLast _).symm⟩
    have hzl : z ∈ lets := (hm.app hv1) z (by rw [hz]; simp)
    have e5 : back v1 ++ (back m ++ ((List.replicate K (back m)).flatten ++ back p)) = inv z :: (back u ++ ((List.replicate K (back m)).flatten ++ back p)) := by
      rw [← List.append_assoc, ← back_app, hz, back_app]; rfl
    rw [e5]
    unfold hd
    rw [List.head?_cons, decide_eq_false]
    intro q
    have q := Option.some.inj q
    rw [hz] at hmm
    have := plain_at (s := u) (x := z) (y := y) (t := []) (by simpa using hmm)
    exact this (by rw [← q, inv_inv hzl])
  unfold chi
  rw [mk, mk, hx2, hx3]
  exact fun z => by cases z
theorem isRot_count {m s : List Nat} (r : IsRot m s) (y : Nat) : s.count y = m.count y := by
  obtain ⟨u, v, rfl, rfl⟩ := r
  rw [List.count_append, List.count_append]; omega
theorem ring_count (w : List Nat) (y : Nat) : (ring w).count y = (mid w).count y := isRot_count (rg_ok _).1 y
theorem Icr_e (L : List Nat) : ∀ (K b : Nat) (χ : Wl), Icr L [[]] K b χ = 0
  | 0, _, _ => rfl
  | K + 1, b, χ => by
    unfold Icr
    have e2 : (SL (L.filter fun d => !decide (d = b)) fun d => Icr L [[]] K (inv d) (sbw d χ)) = SL (L.filter fun d => !decide (d = b)) fun _ => 0 := by
      unfold SL; exact sum_map_congr fun d _ => Icr_e L K (inv d) (sbw d χ)
    rw [e2]; unfold SL SR SW; rw [sum_map_zero]; rfl
theorem Icr_sum (L : List Nat) (K b : Nat) (χ : Wl) : ∀ rs : List (List Nat), Icr L rs K b χ = (rs.map fun w => Icr L [w] K b χ).sum
  | [] => Icr_nil L K b χ
  | w :: rs => by rw [Icr_cons, List.map_cons, List.sum_cons, Icr_sum L K b χ rs]
theorem w1 {n : Int} (h : 1 ≤ n) (h' : n ≤ 4) {T T' : List (List Nat)} (hT : Tl T) (hT' : Tl T') (hinv : thn T T' = same n) {rs : List (List Nat)} (hr : RowOk n rs) (hm : MinR n rs) {x y : Nat} (hx : x ∈ Ln n) (hin : y ∈ mid (rt T [x])) :
    rowCount rs x ≤ rowCount (rowT T rs) y := by
  have hxl := Ln_lw n x hx
  obtain ⟨p, hp1, hp2, hp3⟩ := wound _ rfl (lw_rt hT [x]) (plain_lay _)
  have hql := lw_mid (lw_rt hT [x]) (plain_lay (F T [x]))
  generalize mid (rt T [x]) = m at hp1 hp2 hql hin
  have hy := hql y hin
  obtain ⟨v1, v2, em⟩ := List.append_of_mem hin
  have hv1 : Lw v1 := by rw [em] at hql; exact hql.left
  have ht : Lw (back (p ++ v1)) := lw_back (hp3.app hv1)
  obtain ⟨K, st⟩ := stab h h' hT hT' hinv ht (y := y)
  have hne := apart hT hxl hp3 hql hp2 hp1 em K
  refine Nat.le_trans (wall h h' (fun w hw => (hr w hw).1) hm (dt_chi T _ y K) hx hne) ?_
  rw [Icr_sum]
  unfold rowCount rowT
  rw [List.map_map]
  refine sum_map_le fun w hw => ?_
  obtain ⟨hwn, hwc, _⟩ := hr w hw
  show _ ≤ (ring (rt T w)).count y + (ring (rt T w)).count (inv y)
  rw [ring_count, ring_count]
  by_cases hn : w = []
  · subst hn; rw [Icr_e]; exact Nat.zero_le _
  · rw [← lns_len]
    exact xw h h' hT hT' hinv ht hy st hwn hwc hn
def expo (y : Nat) (w : List Nat) : Int := (w.count y : Int) - w.count (inv y)
theorem expo_app (y : Nat) (u v : List Nat) : expo y (u ++ v) = expo y u + expo y v := by unfold expo; rw [List.count_append, List.count_append]; omega
theorem expo_nil (y : Nat) : expo y [] = 0 := rfl
theorem expo_inv {y c : Nat} (hy : y ∈ lets) (hc : c ∈ lets) : expo y [inv c] = - expo y [c] := by
  unfold expo
  have e1 : [inv c].count y = [c].count (inv y) := by
    rw [List.count_singleton, List.count_singleton]
    have : (inv c == y) = (c == inv y) := by
      rw [Bool.eq_iff_iff, beq_iff_eq, beq_iff_eq]
      exact ⟨fun z => by rw [← z, inv_inv hc], fun z => by rw [z, inv_inv hy]⟩
    rw [this]
  have e2 : [inv c].count (inv y) = [c].count y := by
    rw [List.count_singleton, List.count_singleton]
    have : (inv c == inv y) = (c == y) := by
      rw [Bool.eq_iff_iff, beq_iff_eq, beq_iff_eq]
      exact ⟨fun z => inv_inj hc hy z, fun z => by rw [z]⟩
    rw [this]
  rw [e1, e2]; omega
theorem expo_back {y : Nat} (hy : y ∈ lets) : ∀ {w : List Nat}, Lw w → expo y (back w) = - expo y w
  | [], _ => rfl
  | c :: w, h => by
    obtain ⟨h1, h2⟩ := lw_cons h
    rw [back_cons, expo_app, expo_back hy h2, expo_inv hy h1]
    have : expo y (c :: w) = expo y [c] + expo y w := expo_app y [c] w
    rw [this]; omega
theorem expo_push {y : Nat} (hy : y ∈ lets) {s : List Nat} {c : Nat} (hc : c ∈ lets) : expo y (push s c) = expo y s + expo y [c] := by
  unfold push
  split
  · rename_i z
    obtain ⟨u, rfl⟩ := List.getLast?_eq_some_iff.mp z
    rw [List.dropLast_concat, expo_app, expo_inv hy hc]; omega
  · rw [expo_app]
theorem expo_fold {y : Nat} (hy : y ∈ lets) : ∀ {w s : List Nat}, Lw w → expo y (w.foldl push s) = expo y s + expo y w
  | [], s, _ => by rw [expo_nil]; simp
  | c :: w, s, h => by
    obtain ⟨h1, h2⟩ := lw_cons h
    rw [List.foldl_cons, expo_fold hy h2, expo_push hy h1]
    have : expo y (c :: w) = expo y [c] + expo y w := expo_app y [c] w
    rw [this]; omega
theorem expo_lay {y : Nat} (hy : y ∈ lets) {w : List Nat} (h : Lw w) : expo y (lay w) = expo y w := by
  unfold lay; rw [expo_fold hy h, expo_nil]; omega
def SI (l : List Nat) (f : Nat → Int) : Int := (l.map f).sum
theorem SI_add (l : List Nat) (f g : Nat → Int) : SI l (fun x => f x + g x) = SI l f + SI l g := sumL_add l f g
theorem SI_single {l : List Nat} {f : Nat → Int} {j : Nat} (nd : l.Nodup) (hj : j ∈ l) (h : ∀ y ∈ l, y ≠ j → f y = 0) : SI l f = f j := by
  have e : SI l f = sumL l (fun b => if b = j then f j else 0) := sumL_congr fun x hx => by
    by_cases z : x = j
    · rw [if_pos z, z]
    · rw [if_neg z]; exact h x hx z
  rw [e, sumL_one _ nd hj]
theorem SI_zero {l : List Nat} {f : Nat → Int} (h : ∀ y ∈ l, f y = 0) : SI l f = 0 := by
  have e : SI l f = sumL l (fun _ => 0) := sumL_congr h
  rw [e, sumL_zero]
theorem lows_nodup (n : Int) : (lows n).Nodup := by
  unfold lows
  exact List.Nodup.sublist (List.take_sublist _ _) (by decide)
theorem low_up {c : Nat} (h : c ∈ [97, 98, 99, 100]) : 97 ≤ c := by revert c; decide
theorem lows_up {n : Int} {c : Nat} (h : c ∈ lows n) : 97 ≤ c := low_up (List.mem_of_mem_take h)
theorem lows_inv {n : Int} {c : Nat} (hl : c ∈ lets) (h : c ∈ lows n) : inv c ∉ lows n := fun z => by
  have h1 := lows_up h
  have h2 := lows_up z
  have : inv c = c - 32 := by unfold inv; rw [if_pos h1]
  rcases lets_cases hl with rfl | rfl | rfl | rfl | rfl | rfl | rfl | rfl <;> revert h1 h2 <;> decide
theorem expo_F {n : Int} (h : 1 ≤ n) (h' : n ≤ 4) {T : List (List Nat)} (hT : Tl T) {y : Nat} (hy : y ∈ lets) : ∀ {w : List Nat}, (∀ c ∈ w, c ∈ Ln n) → expo y (F T w) = SI (lows n) fun x => expo x w * expo y (sub T x)
  | [], _ => by rw [SI_zero fun x _ => by rw [expo_nil, Int.zero_mul]]; rfl
  | c :: w, hw => by
    have hc := hw c (by simp)
    have hcl := Ln_lw n c hc
    have e1 : F T (c :: w) = sub T c ++ F T w := by simp [F]
    rw [e1, expo_app, expo_F h h' hT hy fun d hd => hw d (by simp [hd])]
    have e2 : (SI (lows n) fun x => expo x (c :: w) * expo y (sub T x)) = SI (lows n) (fun x => expo x [c] * expo y (sub T x)) + SI (lows n) fun x => expo x w * expo y (sub T x) := by
      rw [← SI_add]
      congr 1
      funext x
      have : expo x (c :: w) = expo x [c] + expo x w := expo_app x [c] w
      rw [this, Int.add_mul]
    rw [e2]
    congr 1
    rcases ln_low h h' hc with hl | hl
    · rw [SI_single (lows_nodup n) hl fun z hz hzc => ?_]
      · have : expo c [c] = 1 := by
          unfold expo
          rw [List.count_singleton, List.count_singleton, beq_self_eq_true, beq_eq_false_iff_ne.mpr (Ne.symm (inv_ne hcl))]; rfl
        rw [this, Int.one_mul]
      · have : expo z [c] = 0 := by
          unfold expo
          rw [List.count_singleton, List.count_singleton, beq_eq_false_iff_ne.mpr (Ne.symm hzc), beq_eq_false_iff_ne.mpr fun (q : c = inv z) => lows_inv (Ln_lw n z (lows_ln h h' hz)) hz (by rw [← q]; exact hl)]; rfl
        rw [this, Int.zero_mul]
    · have hil := inv_mem hcl
      rw [SI_single (lows_nodup n) hl fun z hz hzc => ?_]
      · have : expo (inv c) [c] = -1 := by
          unfold expo
          rw [List.count_singleton, List.count_singleton, inv_inv hcl, beq_self_eq_true, beq_eq_false_iff_ne.mpr (Ne.symm (inv_ne hcl))]; rfl
        rw [this, sub_inv hT hcl, expo_back hy (lw_sub hT c)]; omega
      · have : expo z [c] = 0 := by
          unfold expo
          rw [List.count_singleton, List.count_singleton, beq_eq_false_iff_ne.mpr fun (q : c = z) => lows_inv (Ln_lw n z (lows_ln h h' hz)) hz (by rw [← q]; exact hl), beq_eq_false_iff_ne.mpr fun q => hzc (by rw [q, inv_inv (Ln_lw n z (lows_ln h h' hz))])]; rfl
        rw [this, Int.zero_mul]
end Z
namespace Z
open PySem PySem.Spec L2
theorem two_of {l : List Nat} (nd : l.Nodup) {p : Nat → Bool} (h : 2 ≤ l.countP p) : ∃ a, a ∈ l ∧ ∃ b, b ∈ l ∧ a ≠ b ∧ p a = true ∧ p b = true := by
  rw [List.countP_eq_length_filter] at h
  have nf := nd.filter p
  have hm : ∀ x, x ∈ l.filter p → x ∈ l ∧ p x = true := fun x hx => List.mem_filter.mp hx
  generalize l.filter p = f at h nf hm
  match f, h with
  | a :: b :: t, _ =>
    have n1 := (List.nodup_cons.mp nf).1
    exact ⟨a, (hm a (by simp)).1, b, (hm b (by simp)).1, fun z => n1 (by rw [z]; simp), (hm a (by simp)).2, (hm b (by simp)).2⟩
theorem one_of {l : List Nat} (nd : l.Nodup) {p : Nat → Bool} (h : l.countP p = 1) : ∃ a, a ∈ l ∧ p a = true ∧ ∀ b ∈ l, p b = true → b = a := by
  obtain ⟨a, ha, hp⟩ := List.countP_pos_iff.mp (by omega : 0 < l.countP p)
  refine ⟨a, ha, hp, fun b hb hpb => ?_⟩
  rw [List.countP_eq_length_filter] at h
  have ma : a ∈ l.filter p := List.mem_filter.mpr ⟨ha, hp⟩
  have mb : b ∈ l.filter p := List.mem_filter.mpr ⟨hb, hpb⟩
  obtain ⟨c, hc⟩ := List.length_eq_one_iff.mp h
  rw [hc] at ma mb
  rw [List.mem_singleton.mp ma, List.mem_singleton.mp mb]
theorem rank_le {l : List Nat} (nd : l.Nodup) (h4 : l.length ≤ 4) {A A' : Nat → Nat → Int} (h1 : ∀ x ∈ l, ∀ z ∈ l, SI l (fun y => A x y * A' y z) = if x = z then 1 else 0) (h2 : ∀ y ∈ l, ∀ z ∈ l, SI l (fun x => A' y x * A x z) = if y = z then 1 else 0)
    {P Q : Nat → Bool} (h : ∀ x ∈ l, ∀ y ∈ l, P x = true → A x y ≠ 0 → Q y = true) : l.countP P ≤ l.countP Q := by
  have zero : ∀ x ∈ l, ∀ y ∈ l, P x = true → Q y = false → A x y = 0 := fun x hx y hy hp hq => by
    by_cases z : A x y = 0
    · exact z
    · rw [h x hx y hy hp z] at hq; cases hq
  apply Nat.le_of_not_lt
  intro lt
  have cP := List.length_eq_countP_add_countP P (l := l)
  have cQ := List.length_eq_countP_add_countP Q (l := l)
  have nP : l.countP (fun a => decide ¬P a = true) = l.countP fun a => !P a := List.countP_congr fun a _ => by cases P a <;> simp
  have nQ : l.countP (fun a => decide ¬Q a = true) = l.countP fun a => !Q a := List.countP_congr fun a _ => by cases Q a <;> simp
  rw [nP] at cP
  rw [nQ] at cQ
  by_cases k0 : l.countP Q = 0
  · obtain ⟨x, hx, hp⟩ := List.countP_pos_iff.mp (by omega : 0 < l.countP P)
    have hq := List.countP_eq_zero.mp k0
    have := h1 x hx x hx
    rw [if_pos rfl, SI_zero fun y hy => by rw [zero x hx y hy hp (by have := hq y hy; simpa using this), Int.zero_mul]] at this
    exact absurd this (by decide)
  · by_cases kn : l.countP P = l.length
    · have hp := List.countP_eq_length.mp kn
      obtain ⟨y, hy, hq⟩ := List.countP_pos_iff.mp (by omega : 0 < l.countP fun a => !Q a)
      have hq : Q y = false := by simpa using hq
      have := h2 y hy y hy
      rw [if_pos rfl, SI_zero fun x hx => by rw [zero x hx y hy (hp x hx) hq, Int.mul_zero]] at this
      exact absurd this (by decide)
    · by_cases k1 : l.countP Q = 1
      · obtain ⟨j, hj, hqj, huj⟩ := one_of nd k1
        obtain ⟨a, ha, b, hb, hab, pa, pb⟩ := two_of nd (p := P) (by omega)
        have row : ∀ x ∈ l, P x = true → ∀ z, SI l (fun y => A x y * A' y z) = A x j * A' j z := fun x hx hp z => SI_single nd hj fun y hy hyj => by
          have : Q y = false := by
            cases q : Q y with
            | false => rfl
            | true => exact absurd (huj y hy q) hyj
          rw [zero x hx y hy hp this, Int.zero_mul]
        have e1 := h1 a ha a ha
        have e2 := h1 b hb a ha
        have e3 := h1 b hb b hb
        rw [row a ha pa, if_pos rfl] at e1
        rw [row b hb pb, if_neg (Ne.symm hab)] at e2
        rw [row b hb pb, if_pos rfl] at e3
        rcases Int.mul_eq_zero.mp e2 with z | z
        · rw [z, Int.zero_mul] at e3; exact absurd e3 (by decide)
        · rw [z, Int.mul_zero] at e1; exact absurd e1 (by decide)
      · -- three of four letters, two of four
        obtain ⟨i, hi, hpi, hui⟩ := one_of nd (p := fun a => !P a) (by omega)
        obtain ⟨a, ha, b, hb, hab, qa, qb⟩ := two_of nd (p := fun a => !Q a) (by omega)
        have qa : Q a = false := by simpa using qa
        have qb : Q b = false := by simpa using qb
        have col : ∀ z ∈ l, Q z = false → ∀ y, SI l (fun x => A' y x * A x z) = A' y i * A i z := fun z hz hq y => SI_single nd hi fun x hx hxi => by
          have : P x = true := by
            cases q : P x with
            | true => rfl
            | false => exact absurd (hui x hx (by rw [q]; rfl)) hxi
          rw [zero x hx z hz this hq, Int.mul_zero]
        have e1 := h2 a ha a ha
        have e2 := h2 a ha b hb
        have e3 := h2 b hb b hb
        rw [col a ha qa, if_pos rfl] at e1
        rw [col b hb qb, if_neg hab] at e2
        rw [col b hb qb, if_pos rfl] at e3
        rcases Int.mul_eq_zero.mp e2 with z | z
        · rw [z, Int.zero_mul] at e1; exact absurd e1 (by decide)
        · rw [z, Int.mul_zero] at e3; exact absurd e3 (by decide)
/-- an alphabet and the one that leads back -/
structure Alph (n : Int) (T T' : List (List Nat)) : Prop where
  w : Wn n T
  w' : Wn n T'
  i1 : thn T T' = same n
  i2 : thn T' T = same n
theorem Alph.symm {n : Int} {T T' : List (List Nat)} (g : Alph n T T') : Alph n T' T := ⟨g.w', g.w, g.i2, g.i1⟩
theorem wn_tl {n : Int} {T : List (List Nat)} (h : Wn n T) : Tl T := fun w hw c hc => Ln_lw n c (h w hw c hc)
theorem expo_one {n : Int} {x z : Nat} (hx : x ∈ lows n) (hz : z ∈ lows n) (hxl : x ∈ lets) (hzl : z ∈ lets) : expo z [x] = if x = z then 1 else 0 := by
  unfold expo
  rw [List.count_singleton, List.count_singleton]
  have h2 : (x == inv z) = false := beq_eq_false_iff_ne.mpr fun q => lows_inv hzl hz (by rw [← q]; exact hx)
  rw [h2]
  by_cases q : x = z
  · rw [if_pos q, beq_iff_eq.mpr q]; rfl
  · rw [if_neg q, beq_eq_false_iff_ne.mpr q]; rfl
theorem expo_mat {n : Int} (h : 1 ≤ n) (h' : n ≤ 4) {T T' : List (List Nat)} (g : Alph n T T') : ∀ x ∈ lows n, ∀ z ∈ lows n, SI (lows n) (fun y => expo y (rt T [x]) * expo z (rt T' [y])) = if x = z then 1 else 0 := fun x hx z hz => by
  have hT := wn_tl g.w
  have hT' := wn_tl g.w'
  have hxn := lows_ln h h' hx
  have hzl := Ln_lw n z (lows_ln h h' hz)
  have hxl := Ln_lw n x hxn
  have hg : ∀ c ∈ [x], c ∈ Ln n := fun c hc => by rw [List.mem_singleton.mp hc]; exact hxn
  have e1 : rt T' (rt T [x]) = [x] := by rw [rt_there_back h h' hT hT' g.i1 hg]; exact lay_plain trivial
  have e2 : expo z (rt T' (rt T [x])) = SI (lows n) fun y => expo y (rt T [x]) * expo z (sub T' y) := by
    have : rt T' (rt T [x]) = lay (F T' (rt T [x])) := rfl
    rw [this, expo_lay hzl (lw_F hT' _), expo_F h h' hT' hzl (Ln_rt h h' g.w [x])]
  rw [e1, expo_one hx hz hxl hzl] at e2
  rw [e2]
  unfold SI
  congr 1
  refine List.map_congr_left fun y _ => ?_
  have : rt T' [y] = lay (sub T' y) := by unfold rt; rw [F_one]
  rw [this, expo_lay hzl (lw_sub hT' y)]
theorem mem_of_expo {q : List Nat} {y : Nat} (hq : Lw q) (hp : Plain q) (hy : y ∈ lets) (h : expo y q ≠ 0) : y ∈ mid q ∨ inv y ∈ mid q := by
  obtain ⟨p, hp1, hp2, hp3⟩ := wound _ rfl hq hp
  have hm := lw_mid hq hp
  by_cases z : y ∈ mid q
  · exact .inl z
  · by_cases z2 : inv y ∈ mid q
    · exact .inr z2
    · exfalso; apply h
      have : expo y (mid q) = 0 := by unfold expo; rw [List.count_eq_zero_of_not_mem z, List.count_eq_zero_of_not_mem z2]; rfl
      rw [hp1, expo_app, expo_app, expo_back hy hp3, this]; omega
theorem mem_of_sum {cs ds : List Nat} (h : ∀ t, cs.countP (fun c => decide (t < c)) ≤ ds.countP fun c => decide (t < c)) : cs.sum ≤ ds.sum := by
  have key : ∀ (M : Nat) (l : List Nat), (∀ c ∈ l, c ≤ M) → l.sum = ((List.range M).map fun t => l.countP fun c => decide (t < c)).sum := by
    intro M l
    induction l with
    | nil => intro _; exact (sum_map_zero (List.range M)).symm
    | cons a l ih =>
      intro hm
      have e : ((List.range M).map fun t => (a :: l).countP fun c => decide (t < c)) = (List.range M).map fun t => (l.countP fun c => decide (t < c)) + (decide (t < a)).toNat := List.map_congr_left fun t _ => by
        rw [List.countP_cons]
        by_cases z : t < a <;> simp [z]
      rw [List.sum_cons, e, sum_map_add, ← ih fun c hc => hm c (by simp [hc])]
      have ha := hm a (by simp)
      have e2 : ∀ M, a ≤ M → ((List.range M).map fun t => (decide (t < a)).toNat).sum = a := by
        intro M
        induction M with
        | zero => intro h; simp; omega
        | succ M ih2 =>
          intro h
          rw [List.range_succ, List.map_append, List.sum_append]
          by_cases z : a ≤ M
          · rw [ih2 z]
            have : decide (M < a) = false := decide_eq_false (by omega)
            simp [this]
          · have ea : a = M + 1 := by omega
            have e3 : ((List.range M).map fun t => (decide (t < a)).toNat) = (List.range M).map fun _ => 1 := List.map_congr_left fun t ht => by rw [decide_eq_true (by have := List.mem_range.mp ht; omega)]; rfl
            have e4 : ((List.range M).map fun _ => 1).sum = M := by
              have : ∀ l : List Nat, (l.map fun _ => 1).sum = l.length := fun l => by
                induction l with
                | nil => rfl
                | cons b l ih => rw [List.map_cons, List.sum_cons, ih, List.length_cons]; omega
              rw [this, List.length_range]
            rw [e3, e4]
            have : decide (M < a) = true := decide_eq_true (by omega)
            simp [this]; omega
      rw [e2 M ha]; omega
  have hb : ∀ l : List Nat, ∀ c ∈ l, c ≤ l.sum := fun l => by
    induction l with
    | nil => intro c hc; cases hc
    | cons a l ih =>
      intro c hc
      rw [List.sum_cons]
      rcases List.mem_cons.mp hc with rfl | hc
      · omega
      · have := ih c hc; omega
  have k1 := key (cs.sum + ds.sum) cs fun c hc => by have := hb cs c hc; omega
  have k2 := key (cs.sum + ds.sum) ds fun c hc => by have := hb ds c hc; omega
  have k3 : ((List.range (cs.sum + ds.sum)).map fun t => cs.countP fun c => decide (t < c)).sum ≤ ((List.range (cs.sum + ds.sum)).map fun t => ds.countP fun c => decide (t < c)).sum := sum_map_le fun t _ => h t
  omega
/-- as many letters stand so often, at least -/
theorem dom {n : Int} (h : 1 ≤ n) (h' : n ≤ 4) {T T' : List (List Nat)} (g : Alph n T T') {rs : List (List Nat)} (hr : RowOk n rs) (hm : MinR n rs) (t : Nat) :
    ((lows n).map (rowCount rs)).countP (fun c => decide (t < c)) ≤ ((lows n).map (rowCount (rowT T rs))).countP fun c => decide (t < c) := by
  rw [List.countP_map, List.countP_map]
  have hT := wn_tl g.w
  refine rank_le (lows_nodup n) (by rcases four h h' with rfl | rfl | rfl | rfl <;> decide) (A := fun x y => expo y (rt T [x])) (A' := fun y z => expo z (rt T' [y])) (expo_mat h h' g) (expo_mat h h' g.symm) fun x hx y hy hp hA => ?_
  have hyl := Ln_lw n y (lows_ln h h' hy)
  have hp : t < rowCount rs x := of_decide_eq_true hp
  show decide (t < rowCount (rowT T rs) y) = true
  refine decide_eq_true (Nat.lt_of_lt_of_le hp ?_)
  rcases mem_of_expo (lw_rt hT [x]) (plain_lay _) hyl hA with z | z
  · exact w1 h h' hT (wn_tl g.w') g.i1 hr hm (lows_ln h h' hx) z
  · rw [← rowCount_inv hyl]; exact w1 h h' hT (wn_tl g.w') g.i1 hr hm (lows_ln h h' hx) z
theorem len_counts {n : Int} (h : 1 ≤ n) (h' : n ≤ 4) {rs : List (List Nat)} (hr : ∀ w ∈ rs, ∀ c ∈ w, c ∈ Ln n) : rowLen rs = ((lows n).map (rowCount rs)).sum := by
  have one : ∀ (w : List Nat), (∀ c ∈ w, c ∈ Ln n) → w.length = ((lows n).map fun x => w.count x + w.count (inv x)).sum := fun w => by
    induction w with
    | nil => intro _; exact (sum_map_zero (lows n)).symm
    | cons c w ih =>
      intro hw
      have hc := hw c (by simp)
      have e : ((lows n).map fun x => (c :: w).count x + (c :: w).count (inv x)) = (lows n).map fun x => (w.count x + w.count (inv x)) + ([c].count x + [c].count (inv x)) := List.map_congr_left fun x _ => by
        have e1 : ∀ y, (c :: w).count y = w.count y + [c].count y := fun y => by rw [List.count_cons, List.count_singleton]
        rw [e1, e1]; omega
      rw [List.length_cons, e, sum_map_add, ← ih fun d hd => hw d (by simp [hd])]
      congr 1
      symm
      clear e ih hw
      rcases four h h' with rfl | rfl | rfl | rfl <;> revert c <;> decide
  induction rs with
  | nil => exact (sum_map_zero (lows n)).symm
  | cons w rs ih =>
    rw [rowLen_cons, ih fun v hv => hr v (by simp [hv]), one w (hr w (by simp)), ← sum_map_add]
    exact sum_map_congr fun x _ => by unfold rowCount; rw [List.map_cons, List.sum_cons]
theorem shortest {n : Int} (h : 1 ≤ n) (h' : n ≤ 4) {T T' : List (List Nat)} (g : Alph n T T') {rs : List (List Nat)} (hr : RowOk n rs) (hm : MinR n rs) : rowLen rs ≤ rowLen (rowT T rs) := by
  rw [len_counts h h' fun w hw => (hr w hw).1, len_counts h h' fun w hw => (rowT_ok h h' g.w rs w hw).1]
  exact mem_of_sum fun t => dom h h' g hr hm t
end Z
namespace Z
open PySem PySem.Spec PyProof.Rows L2
end Z
namespace Z
open PySem PySem.Spec L2
mutual
theorem eqD_ok : ∀ (n : Nat) (d : D), okD n d = true → eqD d d = true
  | _, .non, _ => rfl
  | _, .bl b, _ => by cases b <;> rfl
  | _, .int i, _ => by simp only [eqD, decide_true]
  | _, .str s, _ => by simp only [eqD, decide_true]
  | 0, .tup l, h => by simp only [okD] at h; cases h
  | n + 1, .tup l, h => by simp only [okD] at h; simp only [eqD]; exact eqDs_ok n l h
  | 0, .lst l, h => by simp only [okD] at h; cases h
  | n + 1, .lst l, h => by simp only [okD] at h; simp only [eqD]; exact eqDs_ok n l h
  | 0, .scr l, h => by simp only [okD] at h; cases h
  | n + 1, .scr l, h => by simp only [okD] at h; simp only [eqD]; exact eqDs_ok n l h
  | _, .dic l, h => by simp only [okD] at h; cases h
theorem eqDs_ok : ∀ (n : Nat) (l : List D), okDs n l = true → eqDs l l = true
  | _, [], _ => rfl
  | n, d :: l, h => by
    simp only [okDs, Bool.and_eq_true] at h
    simp only [eqDs, Bool.and_eq_true]
    exact ⟨eqD_ok n d h.1, eqDs_ok n l h.2⟩
end
theorem okD_tupA {n : Nat} {l : List D} (h : ∀ d ∈ l, okD n d = true) : okD (n + 1) (.tup l) = true := by simp only [okD]; exact okDs_of h
theorem okD_lstA {n : Nat} {l : List D} (h : ∀ d ∈ l, okD n d = true) : okD (n + 1) (.lst l) = true := by simp only [okD]; exact okDs_of h
theorem okD_strA {n : Nat} {s : List Nat} (h : okD 64 (.str s) = true) : okD n (.str s) = true := by simp only [okD] at h ⊢; exact h
theorem okD_intA (n : Nat) (i : Int) : okD n (.int i) = true := by simp only [okD]
theorem okD_charsA {n : Nat} {w : List Nat} (h : Lw w) : ∀ d ∈ chars w, okD n d = true := fun d hd => by
  obtain ⟨c, hc, rfl⟩ := chars_mem hd
  exact okD_strA (Lw.one (h c hc)).ok
def stc (c : Nat × List Nat) : Stp := .chg c.1 c.2
theorem short_at {n : Int} (h : 1 ≤ n) (h' : n ≤ 4) {rs : List (List Nat)} (hr : RowOk n rs) : (∀ pre c post, (short n rs).1 = pre ++ c :: post → ∃ f, mkS n (lastR n rs (pre.map stc)) = some (c.1, c.2, f)) ∧ lastR n rs ((short n rs).1.map stc) = (short n rs).2 :=
  short_ind h h' (P := fun rs r => (∀ pre c post, r.1 = pre ++ c :: post → ∃ f, mkS n (lastR n rs (pre.map stc)) = some (c.1, c.2, f)) ∧ lastR n rs (r.1.map stc) = r.2) (fun rs hr e => ⟨fun pre c post e2 => by have := congrArg List.length e2; simp at this, rfl⟩) (fun rs b sd f r hr e ⟨i1, i2⟩ => by
    refine ⟨fun pre c post e2 => ?_, i2⟩
    cases pre with
    | nil =>
      have e2 : (b, sd) :: r.1 = c :: post := e2
      cases e2
      exact ⟨f, e⟩
    | cons p pre =>
      have e2 : (b, sd) :: r.1 = p :: (pre ++ c :: post) := e2
      injection e2 with e3 e4
      subst e3
      exact i1 pre c post e4) hr
theorem short_chg {n : Int} (h : 1 ≤ n) (h' : n ≤ 4) {rs : List (List Nat)} (hr : RowOk n rs) : ∀ s ∈ (short n rs).1.map stc, StepOk n s := fun s hs => by
  obtain ⟨c, hc, rfl⟩ := List.mem_map.mp hs
  exact (short_ok h h' hr).2.2.2.1 c hc
end Z
namespace Z
open PySem PySem.Spec L2
theorem Alph.road {n : Int} (h : 1 ≤ n) (h' : n ≤ 4) {ss : List Stp} (hs : ∀ s ∈ ss, StepOk n s) : Alph n (roadT n ss) (roadT n (roadB n ss)) :=
  ⟨wn_road h h' hs, wn_road h h' (roadB_ok h h' hs), road_there_back h h' hs, road_back_there h h' hs⟩
theorem lastR_app (n : Int) (rs : List (List Nat)) (ss tt : List Stp) : lastR n rs (ss ++ tt) = lastR n (lastR n rs ss) tt := by unfold lastR; rw [List.foldl_append]
theorem lastR_back {n : Int} (h : 1 ≤ n) (h' : n ≤ 4) {rs : List (List Nat)} (hr : RowOk n rs) {ss : List Stp} (hs : ∀ s ∈ ss, StepOk n s) : lastR n (lastR n rs ss) (roadB n ss) = rs := by
  rw [← lastR_road h h' (lastR_ok h h' hr hs) (roadB_ok h h' hs), ← lastR_road h h' hr hs, rowT_thn (wn_tl (wn_road h h' hs)) (wn_tl (wn_road h h' (roadB_ok h h' hs))), road_there_back h h' hs, rowT_same h h' hr]
end Z
namespace Z
open PySem PySem.Spec L2
open PySem.W (findIn subIn typeIn keepIn hasDictIn specialIn takesIn mroIn exmOne kitOne kitAny nsIn)
section
variable {X : Cx} {W : WX} {pos : Pos}
/-- a return whose value is shared -/
def MS.retS (m : M Va) : MS := fun ρ => (m ρ).thn fun a ρ => (M.shr a ρ).thn fun d ρ => .ret (.sh d) ρ
end
end Z
namespace Z
open PySem PySem.Spec L2 PyProof.Rows
open PySem.W (findIn subIn typeIn keepIn hasDictIn specialIn takesIn mroIn exmOne kitOne kitAny nsIn)
end Z
namespace PySem.W
open PySem PySem.Spec PySem.Calls PyProof.Rows
end PySem.W
namespace Z
open PySem PySem.Spec L2
open PySem.W (findIn subIn typeIn keepIn hasDictIn specialIn takesIn mroIn exmOne kitOne kitAny nsIn)
section
variable {X : Cx} {W : WX} {pins : List (Addr × Obj)} {σ : St} {H : Hp} {s : Shared} {pos p : Pos}
/-- names of own classes, one behind the other -/
inductive XNs (X : Cx) : List Expr → List String → Prop where
  | nil : XNs X [] []
  | cons {c : String} {np : Pos} {es : List Expr} {ts : List String} (hg : Gl X (Str.ofString c)) (hdb : (Str.ofString c == ("__debug__" : Str)) = false) (hs : starEach (.Name (Str.ofString c) np :: es) X.env = (false, eval (.Name (Str.ofString c) np) X.env) :: starEach es X.env) (r : XNs X es ts) : XNs X (.Name (Str.ofString c) np :: es) (c :: ts)
theorem XNs.cls {K : Frag} : ∀ ts : List String, Paired ClsV (ts.map fun c : String => V.ref (He.ga K c)) (ts.map fun c : String => Value.ref (He.ga K c))
  | [] => .nil
  | c :: ts => .cons (.own _) (XNs.cls ts)
end
end Z
namespace Z
open PySem PySem.Spec L2
def M.pure' (v : Va) : M Va := fun ρ => .ok v ρ
/-- raise C(e), told as .nw -/
def MS.rr1 (c : String) (f : List Nat) (m : M Va) : MS := fun ρ => (m.fz ρ).thn fun a ρ => (M.shr a ρ).thn fun d ρ => .ret (.nw (.x1 c f d)) ρ
section
variable {ρ : Ev} {N C B : Ev → Prop} {T : Va → Ev → Prop} {a a' b b' m m' su st st' : MS} {d : D}
theorem ws_rr1 {c : String} {f : List Nat} {m : M Va} (h : WE m ρ fun a ρ1 => WE (M.shr a.fz) ρ1 fun d ρ2 => T (.nw (.x1 c f d)) ρ2) : WS (MS.rr1 c f m) ρ N T C B :=
  thn_wp (we_fz (R.wp_mono h fun a ρ1 h1 => thn_wp (R.wp_mono h1 fun d ρ2 h2 => ⟨h2⟩)))
theorem ws_retS {m : M Va} (h : WE m ρ fun a ρ1 => WE (M.shr a) ρ1 fun d ρ2 => T (.sh d) ρ2) : WS (MS.retS m) ρ N T C B := thn_wp (R.wp_mono h fun a ρ1 h1 => thn_wp (R.wp_mono h1 fun d ρ2 h2 => ⟨h2⟩))
theorem we_pure' {v : Va} {Q : Va → Ev → Prop} (k : Q v ρ) : WE (M.pure' v) ρ Q := ⟨k⟩
end
end Z
namespace L2
open PySem PySem.Spec PyProof.Rows
/-- the empty set, as it is made -/
abbrev emptySetO (w : World) : Obj := { cls := .type "set", dict := none, data := .set #[] 0 (.fresh 0 0 (!w.params.followText "set-order")) }
section
variable {P : Program} {w : World} {A : Around} {E : Value → Shared → Prop} {s : Shared}
set_option maxRecDepth 100000 in
set_option maxHeartbeats 3200000 in
/-- set(list of whole numbers) -/
theorem zset_list {l : Addr} {items : Array Value} (ns : List Int) {Q : Value → Shared → Prop} (h0 : A.handled = none) (hl : s.heap.IsList l items) (hit : IntsAre items.toList ns) (hb : ns.length + 1 < scanBound)
    (k : ∀ (g : Heap) (tk c : Nat), SetR w g s.heap.objs.size (fun j => decide (j ∈ ns)) c → c ≤ ns.length → (∀ b o, s.heap.get? b = some o → g.get? b = some o) → Q (.ref s.heap.objs.size) { s with heap := g, toks := tk }) :
    wpAny (model P w) A (call (.type "set") [.ref l]) Q E s := by
  have size : items.size = ns.length := by rw [← Array.length_toList]; exact IntsAre.length hit
  obtain ⟨c0, tl, hmro⟩ := F.called_set.mro
  have m1 := F.called_set.made
  have m2 := F.called_set.sub
  refine wpAny_call (codeAny_of_tree ?_)
  show wpAny _ _ (callAny (.type "set") _) _ _ _
  refine wpAny_pure ⟨Code.quiet_builtin _ (by decide +kernel), codeAny_builtin F.entry_type_call ?_⟩
  rw [Around.under_plain (weight_type_call_type "set" [.ref l] []) rfl]
  have m3 := F.called_set.notType
  have m4 := F.called_set.canCreate
  have m5 := F.typeCall_set_1 (.ref l)
  repeat (any_goals (first | assumption | wp_step))
  refine codeAny_mono (code_set_led1 (.ref l) (E := E) (Q₁ := fun o s₁ => o = .ref s.heap.objs.size ∧ s₁ = { s with heap := s.heap.push (emptySetO w) }) ⟨rfl, rfl⟩) fun r s₁ hr => ?_
  rcases r with e | (o | _ | _ | _)
  · exact hr
  · exact hr.elim
  · exact hr.elim
  · exact hr.elim
  · obtain ⟨rfl, rfl⟩ := hr
    have at0 : (s.heap.push (emptySetO w)).get? s.heap.objs.size = some (emptySetO w) := Heap.get?_push_size _ rfl
    have ty0 : Shared.TypeIs { s with heap := s.heap.push (emptySetO w) } (.ref s.heap.objs.size) "set" := ⟨_, at0, rfl⟩
    have i1 := F.called_set.init.lookup
    have i2 := F.called_set.init.bind (.ref s.heap.objs.size)
    repeat (any_goals (first | assumption | wp_step))
    refine codeAny_mono (codeAny_call_builtin (R := wants (fun r s₂ => r = .none ∧ ∃ g tk c, s₂ = { s with heap := g, toks := tk } ∧ SetR w g s.heap.objs.size (fun j => decide (j ∈ ns)) c ∧ c ≤ ns.length ∧ (∀ b o, s.heap.get? b = some o → g.get? b = some o)) E)
      F.called_set.init.plain F.entry_set_init (check_set_init_1 ty0 ?_)) fun r₂ s₂ hr₂ => ?_
    · have li : (s.heap.push (emptySetO w)).IsList l items := hl.push _
      have szE : (s.heap.push (emptySetO w)).objs.size = s.heap.objs.size + 1 := Heap.size_push ..
      obtain ⟨ol, hol, hcl, nl, hdl⟩ := id hl
      obtain ⟨oc, od, ob, osl⟩ := ol
      dsimp only at hcl hdl
      subst hcl
      obtain ⟨nl, rfl⟩ : ∃ n, ob = .seq items n := ⟨_, hdl⟩
      have hol' : (s.heap.push (emptySetO w)).get? l = some { cls := .type "list", dict := od, data := .seq items nl, slots := osl } := Heap.get?_push_of_some _ hol
      have u1 := F.sub_list_set
      have u2 := F.sub_list_frozenset
      have u3 : (Value.type "list" == Value.type "dict") = false := by decide
      unfold Builtin.«set.__init__» noKeywords Builtin.Frozenset.updateFrom
      generalize hPI : pyIter = PI
      wp_walk
      subst hPI
      refine wpAny_pyIter_list li ?_
      refine wpAny_bind (wpAny_runValue ?_)
      have lt : l < s.heap.objs.size := Heap.lt_size hol
      have hh3 : A.in1.in1.in1.handled = none := by simp [h0]
      have neI : l ≠ (s.heap.push (emptySetO w)).objs.size := by rw [szE]; exact Nat.ne_of_lt (Nat.lt_succ_of_lt lt)
      have off : s.heap.objs.size ∉ [(s.heap.push (emptySetO w)).objs.size, l] := by
        rw [szE]
        simp only [List.mem_cons, List.not_mem_nil, or_false, not_or]
        exact ⟨Nat.ne_of_lt (Nat.lt_succ_self _), Nat.ne_of_gt lt⟩
      have val : ∀ (i : Nat) (v : Value), items[i]? = some v → ∃ k t, ns[i]? = some k ∧ v = .int k t := fun i v hv => by
        have hi : i < ns.length := by rw [← size]; exact (Array.getElem?_eq_some_iff.mp hv).1
        obtain ⟨t, e⟩ := IntsAre.int_at hit i v (by rw [Array.getElem?_toList]; exact hv)
        rw [List.getD_eq_getElem?_getD, List.getElem?_eq_getElem hi] at e
        exact ⟨ns[i], t, List.getElem?_eq_getElem hi, e⟩
      refine set_update_ints ((Walks.list hh3 _ l neI items).toS) s.heap.objs.size off ns size hb val (items.size - 0) 0 _ (by omega) (Nat.zero_le _) ⟨⟨_, Heap.get?_push_size _ rfl, rfl, rfl⟩, (li.push _)⟩ ?st ?fin
      case st => exact ⟨0, Nat.le_refl 0, setR_new_at (Heap.get?_push_of_some _ at0)⟩
      case fin =>
        intro s' c' hm hc' hS'
        obtain ⟨g, g2, d', tk', os'⟩ := s'
        have eg : g2 = s.gens := hm.gens
        have ed : d' = s.drawn := hm.drawn
        have eo : os' = s.os := hm.os
        subst eg ed eo
        show wpAny _ _ _ _ _ _
        refine wpAny_pure ?_
        show wpAny _ _ (ret Value.none) _ _ _
        rw [size] at hc'
        refine wpAny_pure ⟨rfl, g, tk', c', rfl, hS', hc', fun b o e => ?_⟩
        have b0 : b < s.heap.objs.size := Heap.lt_size e
        refine hm.heap b o ?_ (Heap.get?_push_of_some _ (Heap.get?_push_of_some _ e))
        simp only [List.mem_cons, List.not_mem_nil, or_false, not_or]
        exact ⟨Nat.ne_of_lt b0, by rw [szE]; exact Nat.ne_of_lt (Nat.lt_succ_of_lt b0)⟩
    · rcases r₂ with e | (r | _ | _ | _)
      · exact hr₂
      · exact hr₂.elim
      · exact hr₂.elim
      · exact hr₂.elim
      · obtain ⟨rfl, g, tk, c', rfl, hS', hc', hk'⟩ := hr₂
        repeat (any_goals (first | assumption | wp_step))
        exact k _ _ _ hS' hc' hk'
end
/-- set(xs), xs a list of whole numbers -/
def rSetOfL (K : PySem.W.Frag) (w : World) : List V → Hp → VK → Prop := fun xs H Q => ∃ (a : Addr) (ns : List Int), xs = [.ref a] ∧ SqL K H a (ns.map V.int) ∧ ns.length < 64 ∧ ∀ p n, H p = none → n ≤ ns.length → Q (.ref p) (upd H p (SetO w p (fun j => decide (j ∈ ns)) n))
theorem cr_setL {X : Cx} (hc : X.calm = true) : CallR X (.type "set") (rSetOfL X.K X.w) := by
  intro pins s σ H xs us Q I r h
  obtain ⟨a, ns, rfl, ha, hn, q⟩ := h
  obtain rfl := Vals.ref1 r
  obtain ⟨its, rv, hl, hz⟩ := I.list ha
  refine zset_list ns (I.ok.hd hc) hl.isList (by simpa using ints_of_vals rv) (by unfold scanBound; omega) fun g tk c R hc' k => ?_
  exact ⟨.ref _, _, I.laid (t' := tk) (a := s.heap.objs.size) (o := SetO X.w s.heap.objs.size (fun j => decide (j ∈ ns)) c) k (Nat.le_refl _) (setO_new R), rfl, q _ _ (I.hok.fresh (Nat.le_refl _)) hc'⟩
end L2
namespace Z
open PySem PySem.Spec L2
def uins (k : Int) : List Int → List Int
  | [] => [k]
  | a :: l => if k < a then k :: a :: l else if k = a then a :: l else a :: uins k l
/-- the numbers of a list, rising, each once -/
def usort : List Int → List Int
  | [] => []
  | k :: l => uins k (usort l)
theorem mem_uins {k x : Int} : ∀ {l : List Int}, x ∈ uins k l ↔ x = k ∨ x ∈ l
  | [] => by simp [uins]
  | a :: l => by
    unfold uins
    split
    · simp
    · split
      · rename_i h1 h2
        subst h2
        simp
      · simp only [List.mem_cons, mem_uins (l := l)]
        constructor <;> intro h <;> rcases h with h | h | h <;> simp [h]
theorem mem_usort {x : Int} : ∀ {l : List Int}, x ∈ usort l ↔ x ∈ l
  | [] => by simp [usort]
  | k :: l => by simp only [usort, mem_uins, mem_usort (l := l), List.mem_cons]
theorem inc_uins {k : Int} : ∀ {l : List Int}, l.Pairwise (· < ·) → (uins k l).Pairwise (· < ·)
  | [], _ => by simp [uins]
  | a :: l, h => by
    obtain ⟨h1, h2⟩ := List.pairwise_cons.mp h
    unfold uins
    split
    · rename_i z
      refine List.pairwise_cons.mpr ⟨fun x hx => ?_, h⟩
      rcases List.mem_cons.mp hx with rfl | hx
      · exact z
      · exact Int.lt_trans z (h1 x hx)
    · split
      · exact h
      · refine List.pairwise_cons.mpr ⟨fun x hx => ?_, inc_uins h2⟩
        rcases mem_uins.mp hx with rfl | hx
        · omega
        · exact h1 x hx
theorem inc_usort : ∀ l : List Int, (usort l).Pairwise (· < ·)
  | [] => .nil
  | k :: l => inc_uins (inc_usort l)
theorem inc_uniq : ∀ {l m : List Int}, l.Pairwise (· < ·) → m.Pairwise (· < ·) → (∀ x, x ∈ l ↔ x ∈ m) → l = m
  | [], [], _, _, _ => rfl
  | [], b :: m, _, _, h => by have := (h b).mpr (by simp); cases this
  | a :: l, [], _, _, h => by have := (h a).mp (by simp); cases this
  | a :: l, b :: m, hl, hm, h => by
    obtain ⟨l1, l2⟩ := List.pairwise_cons.mp hl
    obtain ⟨m1, m2⟩ := List.pairwise_cons.mp hm
    have e : a = b := by
      rcases List.mem_cons.mp ((h a).mp (by simp)) with e | e
      · exact e
      · rcases List.mem_cons.mp ((h b).mpr (by simp)) with e2 | e2
        · exact e2.symm
        · have := m1 a e; have := l1 b e2; omega
    subst e
    refine congrArg _ (inc_uniq l2 m2 fun x => ⟨fun hx => ?_, fun hx => ?_⟩)
    · rcases List.mem_cons.mp ((h x).mp (by simp [hx])) with e | e
      · subst e; have := l1 x hx; omega
      · exact e
    · rcases List.mem_cons.mp ((h x).mpr (by simp [hx])) with e | e
      · subst e; have := m1 x hx; omega
      · exact e
theorem usort_self {l : List Int} (h : l.Pairwise (· < ·)) : usort l = l := inc_uniq (inc_usort l) h fun x => mem_usort
def intsD : List D → Option (List Int)
  | [] => some []
  | .int i :: l => (intsD l).map (i :: ·)
  | _ => none
theorem intsD_ok : ∀ {l : List D} {ns : List Int}, intsD l = some ns → l = ns.map D.int
  | [], ns, h => by cases h; rfl
  | .int i :: l, ns, h => by
    obtain ⟨ms, e, rfl⟩ := map_some' h
    rw [intsD_ok e]; rfl
  | .non :: _, _, h => by cases h
  | .bl _ :: _, _, h => by cases h
  | .str _ :: _, _, h => by cases h
  | .tup _ :: _, _, h => by cases h
  | .lst _ :: _, _, h => by cases h
  | .dic _ :: _, _, h => by cases h
  | .scr _ :: _, _, h => by cases h
  | .x0 _ :: _, _, h => by cases h
  | .x1 _ _ _ :: _, _, h => by cases h
theorem intsD_map : ∀ ns : List Int, intsD (ns.map D.int) = some ns
  | [] => rfl
  | n :: ns => by simp only [List.map_cons, intsD, intsD_map ns, Option.map_some]
theorem rps_ints {K : Frag} {F : Hp} : ∀ {ns : List Int} {vs : List V}, Rps K F (ns.map D.int) vs → vs = ns.map V.int
  | [], vs, h => by simp only [List.map_nil, Rps] at h; exact h
  | n :: ns, vs, h => by
    obtain ⟨v, r, rfl, h1, h2⟩ := h.cases1
    simp only [Rp] at h1
    rw [h1, rps_ints h2]; rfl
/-- sorted(set(xs)) -/
def opSortSet : D → Option Va
  | .lst l => (intsD l).bind fun ns => if ns.length < 64 then some (.nw (.lst ((usort ns).map .int))) else none
  | _ => none
theorem opSortSet_ok {ns : List Int} (h : ns.length < 64) : opSortSet (.lst (ns.map .int)) = some (.nw (.lst ((usort ns).map .int))) := by
  show ((intsD (ns.map .int)).bind fun ns => if ns.length < 64 then some (Va.nw (D.lst ((usort ns).map D.int))) else none) = _
  rw [intsD_map, Option.bind_some, if_pos h]
section
variable {X : Cx} {W : WX} {pos : Pos}
theorem em_sortSet {e : Expr} {m : M Va} {p p2 pos2 : Pos} (hc : X.calm = true) (hm : X.mg "sorted" = none) (hm2 : X.mg "set" = none) (he : EM X W e m) (hg : Gl X "sorted" := by rfl) (hg2 : Gl X "set" := by rfl)
    (hs1 : starEach [.Call (.Name "set" p2) [e] [] pos2] X.env = (false, eval (.Call (.Name "set" p2) [e] [] pos2) X.env) :: starEach [] X.env := by rfl) (hs2 : starEach [e] X.env = (false, eval e X.env) :: starEach [] X.env := by rfl)
    (hpl : (backTo pos (starEach [] X.env)).any (·.1) = false := by rfl) (hpl2 : (backTo pos2 (starEach [] X.env)).any (·.1) = false := by rfl) : EM X W (.Call (.Name "sorted" p) [.Call (.Name "set" p2) [e] [] pos2] [] pos) (M.un opSortSet m) := fun G =>
  pe_weak (pe_callB (cr_sortedSet hc) hg hm (by decide +kernel) (pa_cons (pe_callTy (cr_setL hc) hg2 hm2 (by decide +kernel) (pa_cons (he.fz G) pa_nil hs2) (by decide) (by decide) hs2 hpl2) pa_nil hs1) (by decide) (by decide) hs1 hpl) fun σ H Q ⟨F, ρ, r, p⟩ => ⟨F, ρ, r, Post.bind p fun v F1 H1 ρ1 a e l r1 q p1 => by
    obtain ⟨s, e1, k⟩ := ofO_post p1
    obtain ⟨d, g, e2⟩ := bind_some e1
    unfold opSortSet at e2
    split at e2
    · rename_i xs
      obtain ⟨ns, en, e3⟩ := bind_some e2
      split at e3
      · rename_i hz
        cases e3
        have el := intsD_ok en
        subst el
        obtain ⟨ad, vs, rfl, h1, rp⟩ := vw_lst (r1.view q g)
        have ev := rps_ints rp
        subst ev
        refine ⟨ad, ns, rfl, SqL.of h1, hz, fun p n np hn => ?_⟩
        have r2 : Rep X.K G F1 (upd H1 p (SetO X.w p (fun j => decide (j ∈ ns)) n)) ρ1 σ := r1.new np
        refine ⟨p, _, n, rfl, upd_same, by omega, fun ms p2 inc mem len np2 => ?_⟩
        have e4 : ms = usort ns := inc_uniq inc (inc_usort ns) fun x => by rw [mem, mem_usort]; simp
        subst e4
        obtain ⟨x2, x3⟩ := new_lst r2 (rps_int (usort ns)) np2
        exact k _ _ _ (Le.refl F1) x2 x3
      · cases e3
    · cases e2⟩
end
end Z
namespace Z
open PySem PySem.Spec PyProof.Rows L2
section
variable {X : Cx} {W : WX} {pos apos p : Pos}
/-- as EM, some token being out -/
def EMT (X : Cx) (W : WX) (e : Expr) (m : M Va) : Prop := ∀ G, PET X e (tG X W G (ResV X.K G) m)
/-- as EM, a token being out behind it -/
def EMU (X : Cx) (W : WX) (e : Expr) (m : M Va) : Prop := ∀ (G : Gh) (pins : List (Addr × Obj)) (s : Shared) (σ : St) (H : Hp) (Q : VK), Inv X pins σ H s → tG X W G (ResV X.K G) m σ H Q →
  wpAny (model X.prog X.w) X.A (eval e X.env) (fun v s' => 1 ≤ s'.toks ∧ EP X pins σ Q v s') X.xe s
theorem EM.t {e : Expr} {m : M Va} (h : EM X W e m) : EMT X W e m := fun G pins s σ H Q _ I q => (h G).run pins s σ H Q I q
theorem EMT.fz {e : Expr} {m : M Va} (h : EMT X W e m) : EMT X W e m.fz := fun G pins s σ H Q k I ⟨F, ρ, r, p⟩ => h G pins s σ H Q k I ⟨F, ρ, r, p.map fun v F1 H1 ρ1 a _ l r1 q k => by
  obtain ⟨F2, l2, r2, q2⟩ := q.share r1
  exact k v F2 H1 l2 r2 q2⟩
theorem EMU.fz {e : Expr} {m : M Va} (h : EMU X W e m) : EMU X W e m.fz := fun G pins s σ H Q I ⟨F, ρ, r, p⟩ => h G pins s σ H Q I ⟨F, ρ, r, p.map fun v F1 H1 ρ1 a _ l r1 q k => by
  obtain ⟨F2, l2, r2, q2⟩ := q.share r1
  exact k v F2 H1 l2 r2 q2⟩
end
end Z
namespace Z
open PySem PySem.Spec L2 PyProof.Rows TL
def Asc (s : List Nat) : Prop := ∀ c ∈ s, c < 128
def tot (ps : List (List Nat)) : Nat := (ps.map List.length).sum
theorem Asc.app {a b : List Nat} (h : Asc a) (h' : Asc b) : Asc (a ++ b) := fun c hc => (List.mem_append.mp hc).elim (h c) (h' c)
theorem Asc.take {a : List Nat} (h : Asc a) (n : Nat) : Asc (a.take n) := fun c hc => h c (List.mem_of_mem_take hc)
theorem Asc.drop {a : List Nat} (h : Asc a) (n : Nat) : Asc (a.drop n) := fun c hc => h c (List.mem_of_mem_drop hc)
theorem Asc.one {c : Nat} (h : c < 128) : Asc [c] := fun x hx => by rw [List.mem_singleton.mp hx]; exact h
theorem Asc.nil : Asc [] := fun c hc => by cases hc
theorem Asc.ok {s : List Nat} (h : Asc s) : okD 64 (.str s) = true := okD_str fun c hc => Nat.lt_trans (h c hc) (by decide)
theorem tot_nil : tot [] = 0 := rfl
theorem tot_cons (p : List Nat) (ps : List (List Nat)) : tot (p :: ps) = p.length + tot ps := by unfold tot; simp
theorem tot_app (a b : List (List Nat)) : tot (a ++ b) = tot a + tot b := by unfold tot; simp
theorem split_S (a b : List Nat) : (splitD a b).map S = Txt.split (S a) (S b) := by
  unfold splitD
  rw [List.map_map]
  have : (Txt.split (S a) (S b)).map (S ∘ fun z : Str => z.cps.toList) = (Txt.split (S a) (S b)).map id := List.map_congr_left fun z _ => S_cps z
  rw [this, List.map_id]
theorem split_glue (a b : List Nat) : joinD b (splitD a b) = a := by
  have h := StrLaws.join_split (S a) (S b)
  rw [← split_S, join_S] at h
  have := congrArg (fun z : Str => z.cps.toList) h
  simp only [S_toList] at this
  exact this
theorem split_ne (a b : List Nat) : splitD a b ≠ [] := fun e => by
  have h : (splitD a b).length = 0 := by rw [e]; rfl
  unfold splitD at h
  rw [List.length_map] at h
  unfold Txt.split at h
  split at h
  · cases h
  · split at h
    · cases h
    · rw [length_partsBetween] at h
      omega
theorem joinD_eqlen {a : List Nat} : ∀ (rs : List (List Nat)), rs ≠ [] → (joinD a rs).length + a.length = tot rs + rs.length * a.length
  | [], h => absurd rfl h
  | [p], _ => by rw [tot_cons, tot_nil]; show p.length + _ = _; simp
  | p :: q :: r, _ => by
    have ih := joinD_eqlen (a := a) (q :: r) (by simp)
    show (p ++ (a ++ joinD a (q :: r))).length + _ = _
    rw [List.length_append, List.length_append, tot_cons, List.length_cons, Nat.succ_mul]
    omega
/-- split at one sign -/
theorem split_tot (a : List Nat) (c : Nat) : tot (splitD a [c]) + (splitD a [c]).length = a.length + 1 := by
  have h := joinD_eqlen (a := [c]) (splitD a [c]) (split_ne a [c])
  rw [split_glue, List.length_singleton, Nat.mul_one] at h
  exact h.symm
end Z
namespace Z
open PySem PySem.Spec L2 PyProof.Rows
section
variable {X : Cx} {W : WX} {pos p : Pos} {e : Expr} {m : M Va}
def M.mk1 (c : String) (f : List Nat) (m : M Va) : M Va := m.fz.bind fun a => (M.shr a).bind fun d => M.pure' (.sh (.x1 c f d))
theorem we_mk1 {ρ : Ev} {Q : Va → Ev → Prop} {c : String} {f : List Nat} (h : WE m ρ fun a ρ1 => WE (M.shr a.fz) ρ1 fun d ρ2 => Q (.sh (.x1 c f d)) ρ2) : WE (M.mk1 c f m) ρ Q :=
  we_bind (we_fz (R.wp_mono h fun a ρ1 h1 => we_bind (R.wp_mono h1 fun d ρ2 h2 => ⟨h2⟩)))
end
end Z
namespace Z
open PySem PySem.Spec L2 PyProof.Rows
open L2H (RoomH)
end Z
namespace Z
open PySem PySem.Spec L2 PyProof.Rows
section
variable {X : Cx} {W : WX} {K : Frag} {F H : Hp} {pos : Pos}
theorem call_tuple_textO (hc : X.calm = true) : CallR X (.type "tuple") (fun xs H Q => ∃ z, xs = [.str z] ∧ z.length ≤ sizeLine ∧ ∀ l o, H l = none → o.dict = none → Q (.ref l) (upd H l (.frz o (.tup (signs z))))) := by
  intro pins s σ H xs us Q I r h
  obtain ⟨z, rfl, hz, q⟩ := h
  obtain ⟨u, rfl, t, rfl⟩ := vals1 r
  refine call_tuple_str (I.ok.hd hc) z t (fun h' tk acc kp it => ?_) (hsz := hz)
  have I1 : Inv X pins σ H { s with heap := h', toks := tk } := I.kept kp
  have I2 : Inv X pins σ (upd H h'.objs.size (.frz { cls := .type "tuple", data := .seq acc } (.tup (signs z)))) { s with heap := h'.push { cls := .type "tuple", data := .seq acc }, toks := tk } :=
    I1.laid (t' := tk) (fun b o e => Heap.get?_push_of_some _ e) (Nat.le_refl _) (show ObjOk X.prog X.w _ _ _ (.frz _ (.tup (signs z))) from ⟨Heap.get?_push_size _ rfl, by unfold signs; rw [List.length_map, Array.length_toList]; exact hz, acc.toList, vals_signs it, by
      have := PyProof.Rows.IsTup.new h' acc
      simpa using this⟩)
  exact ⟨.ref h'.objs.size, _, I2, rfl, q _ _ (I1.hok.fresh (Nat.le_refl _)) rfl⟩
def opTupT : List D → Option Va
  | [.str s] => if s.length ≤ big then some (.sh (.ttp (s.map fun c => [c]))) else none
  | _ => none
theorem bf_tupT (hc : X.calm = true) : BF X (.type "tuple") opTupT := ⟨_, call_tuple_textO hc, fun G F H ρ σ xs ds s Q r vw e k => by
  unfold opTupT at e
  split at e
  · split at e
    · rename_i s z
      cases e
      obtain ⟨w, rfl, w1⟩ := vwl1 vw
      rw [vw_str w1]
      refine ⟨_, rfl, by rw [S_len]; exact big_le z, fun l o n hd => ?_⟩
      refine k _ (upd F l (.frz o (.tup (signs (S s))))) _ (leNew r n) (r.newF n) ?_
      show Rp X.K _ (.ttp _) (.ref l)
      refine ⟨l, o, rfl, ?_, hd⟩
      rw [upd_same]
      unfold signs
      rw [S_toList, List.map_map]
      rfl
    · cases e
  · cases e⟩
theorem vw_ttp {ws : List (List Nat)} {v : V} (s : Sub F H) (h : Vw K F H (.ttp ws) v) : ∃ a o, v = .ref a ∧ H a = some (.frz o (.tup (ws.map fun w => V.str (S w)))) ∧ o.dict = none := by
  simp only [Vw, Rp] at h
  obtain ⟨a, o, e, q, r⟩ := h
  exact ⟨a, o, e, s _ _ q, r⟩
theorem inD_strs (b : List Nat) : ∀ ws : List (List Nat), inD (.str b) (ws.map .str) = decide (b ∈ ws)
  | [] => by rfl
  | d :: w => by
    have ih := inD_strs b w
    unfold inD at ih ⊢
    show (eqD (.str d) (.str b) || (w.map D.str).any fun y => eqD y (.str b)) = _
    rw [ih, eqD_str]
    by_cases h : d = b
    · subst h; simp
    · have h2 : ¬ b = d := fun e => h e.symm
      simp [h, h2]
theorem rps_strs : ∀ ws : List (List Nat), Rps K F (ws.map .str) (ws.map fun w => V.str (S w))
  | [] => Rps.nil
  | w :: ws => Rps.cons (by simp only [Rp]) (rps_strs ws)
theorem inV_strs (b : List Nat) (ws : List (List Nat)) : inV (.str (S b)) (ws.map fun w => V.str (S w)) = decide (b ∈ ws) := by
  rw [← inD_strs b ws]
  exact inV_eq (K := []) (F := fun _ => none) (d := .str b) rfl (by simp only [Rp]) (by rw [List.all_map]; exact List.all_eq_true.mpr fun _ _ => rfl) (rps_strs ws)
def opInP : D → D → Option Va
  | .str b, .ttp ws => some (.sh (.bl (decide (b ∈ ws))))
  | _, _ => none
theorem flat_strsV (ws : List (List Nat)) : (ws.map fun w => V.str (S w)).all flatV = true := by
  rw [List.all_map]
  exact List.all_eq_true.mpr fun _ _ => rfl
theorem bo_inP : BO X (compareOp .In) opInP := ⟨_, op_in_seq, fun G F H ρ σ x y dx dy s Q r vx vy e k => by
  unfold opInP at e
  split at e
  · rename_i b ws
    cases e
    obtain ⟨a, o, rfl, h1, _⟩ := vw_ttp r.sub vy
    rw [vw_str vx]
    refine ⟨a, _, rfl, .inr (.inl (.inr ⟨o, h1⟩)), rfl, flat_strsV ws, ?_⟩
    rw [inV_strs]
    exact k _ F H (Le.refl F) r rv_bl
  · cases e⟩
def tyP (x : V) (H : Hp) : Prop := ∃ a ob xs, x = .ref a ∧ H a = some (.frz ob (.tup xs)) ∧ ob.dict = none
theorem tyP_is {pins : List (Addr × Obj)} {σ : L2.St} {s : Shared} {x : V} {v : Value} (I : Inv X pins σ H s) (r : RelV x v) (ty : tyP x H) : s.TypeIs v "tuple" ∧ ∀ a, v = .ref a → ∃ ob, s.heap.get? a = some ob ∧ ob.dict = none := by
  obtain ⟨a, ob, xs, rfl, h, hd⟩ := ty
  cases r
  obtain ⟨g, _, its, _, it⟩ := I.hok a _ h
  obtain ⟨o, e, hc, _⟩ := it
  refine ⟨⟨o, e, hc⟩, fun b z => ?_⟩
  cases z
  exact ⟨ob, g, hd⟩
theorem pe_bmP {o e : Expr} {es : List Expr} {to : TE} {t : TA} {name : Str} {apos cpos : Pos} {id : String} {r : V → List V → Hp → VK → Prop} (pa : PlainAttrs "tuple") (slot : Slot "tuple" name id) (hty : typeOf (.builtin id) = pure (.type "method_descriptor")) (hm : MtR X id r) (ho : PE X o to) (ha : PA X (e :: es) t)
    (hbase : attributeBase o name X.env (eval o X.env) = eval o X.env := by rfl)
    (hfew : ((backTo cpos (starEach (e :: es) X.env)).all (fun x => !x.1) && (backToKw cpos (keywordEach [] X.env)).all (fun x => x.1.isSome)
      && decide ((e :: es).length + ([] : List Keyword).length + (if ([] : List Keyword).isEmpty then 0 else 1) < 30)) = true := by rfl)
    (hline : (apos.endLine == cpos.line) = true := by rfl) (hs : starEach (e :: es) X.env = (false, eval e X.env) :: starEach es X.env := by rfl) (hplain : (backTo cpos (starEach es X.env)).any (·.1) = false := by rfl) :
    PE X (.Call (.Attribute o name apos) (e :: es) [] cpos) (fun σ H Q => to σ H fun x H1 => tyP x H1 ∧ t σ H1 fun xs H2 => r x xs H2 Q) := by
  refine ⟨fun pins s σ H Q I h => ?_⟩
  refine wpAny_Call_method_late hbase hfew hline rfl (L2.thn (ho.run pins s σ H _ I h) fun v s1 ⟨x, H1, I1, r1, ty, q1⟩ => ?_)
  obtain ⟨h1, h2⟩ := tyP_is I1 r1 ty
  refine ⟨"tuple", id, pa, slot, hty, h1, h2, ?_⟩
  have hA := ha.run cpos pins s1 σ H1 _ I1 q1
  rw [hs] at hA ⊢
  refine Calls.callWith_builtin (by show (false || (backTo cpos (starEach es X.env)).any (·.1)) = false; rw [hplain] <;> rfl) (Calls.evalArgs_plain ?_)
  exact L2.thn hA fun us s2 ⟨vs, H2, I2, r2, q2⟩ => hm pins s2 σ H2 x vs v us Q I2 r1 r2 q2
def isP : D → Bool
  | .ttp _ => true
  | _ => false
def M.kindP (m : M Va) : M Va := m.fz.bind fun a ρ => match a.get ρ with
  | some d => if isP d then .ok a ρ else .bad
  | none => .bad
def M.methP (o : D → List D → Option Va) (m : M Va) (ms : M (List Va)) : M Va := (M.kindP m).bind fun a => ms.bind fun as => M.useM o a as
theorem kindP_post {G : Gh} {σ : L2.St} {ρ : Ev} {m : M Va} {k : Va → M Va} {Q : VK} {Q1 : VK} (p : Post X W G F σ (ResV X.K G σ) ((M.kindP m).bind k ρ) Q)
    (i : ∀ v F1 H1 ρ1 a, Le F F1 → Rep X.K G F1 H1 ρ1 σ → ResV X.K G σ F1 H1 ρ1 a v → (∀ d, a ≠ .nw d) → tyP v H1 → Post X W G F1 σ (ResV X.K G σ) (k a ρ1) Q → Q1 v H1) : Post X W G F σ (ResV X.K G σ) (m.fz ρ) Q1 := by
  unfold M.kindP M.bind at p
  cases e : m.fz ρ with
  | bad => rw [e] at p; exact p.elim
  | exc c d ρ' => rw [e] at p; exact p
  | ok a ρ1 =>
    rw [e] at p
    simp only [R.bind] at p
    intro v F1 H1 l1 r1 q1
    cases g : a.get ρ1 with
    | none => rw [g] at p; exact p.elim
    | some d =>
      rw [g] at p
      dsimp only at p
      by_cases z : isP d = true
      · rw [if_pos z] at p
        refine i v F1 H1 ρ1 a l1 r1 q1 (fz_inv e) ?_ (Post.le l1 p)
        cases d <;> first | (cases z; done) | skip
        obtain ⟨b, o, rfl, h1, hd⟩ := vw_ttp r1.sub (r1.view q1 g)
        exact ⟨b, o, _, rfl, h1, hd⟩
      · rw [if_neg z] at p; exact p.elim
theorem em_mP {id : String} {name : Str} {e a : Expr} {es : List Expr} {m : M Va} {ms : M (List Va)} {o : D → List D → Option Va} {apos cpos : Pos} (h : MO X id o) (pa : PlainAttrs "tuple") (slot : Slot "tuple" name id) (hty : typeOf (.builtin id) = pure (.type "method_descriptor")) (he : EM X W e m) (ha : AM X W (a :: es) ms)
    (hbase : attributeBase e name X.env (eval e X.env) = eval e X.env := by rfl)
    (hfew : ((backTo cpos (starEach (a :: es) X.env)).all (fun x => !x.1) && (backToKw cpos (keywordEach [] X.env)).all (fun x => x.1.isSome)
      && decide ((a :: es).length + ([] : List Keyword).length + (if ([] : List Keyword).isEmpty then 0 else 1) < 30)) = true := by rfl)
    (hline : (apos.endLine == cpos.line) = true := by rfl) (hs : starEach (a :: es) X.env = (false, eval a X.env) :: starEach es X.env := by rfl) (hplain : (backTo cpos (starEach es X.env)).any (·.1) = false := by rfl) : EM X W (.Call (.Attribute e name apos) (a :: es) [] cpos) (M.methP o m ms) := by
  obtain ⟨r, hm, hss⟩ := h
  exact fun G => pe_weak (pe_bmP pa slot hty hm (he.fz G) (ha G) hbase hfew hline hs hplain) fun σ H Q ⟨F, ρ, rp, p⟩ => ⟨F, ρ, rp, kindP_post p fun v F1 H1 ρ1 a l1 r1 q1 na ty p1 => ⟨ty, F1, ρ1, r1, Post.bind p1 fun xs F2 H2 ρ2 as e2 l2 r2 q2 p2 => useM_post hss r2 (q1.mono l2.r na) q2 p2⟩⟩
def opPIndex : D → List D → Option Va
  | .ttp ws, [.str b] => (ws.findIdx? fun t => decide (t = b)).map fun j => .sh (.int (j : Nat))
  | _, _ => none
theorem mo_pindex : MO X "tuple.index" opPIndex := ⟨_, mt_tup_index, fun G F H ρ σ x xs dx ds s Q r vx vl e k => by
  unfold opPIndex at e
  split at e
  · rename_i ws b
    obtain ⟨j, e2, e3⟩ := map_some' e
    cases e3
    obtain ⟨w, rfl, w1⟩ := vwl1 vl
    obtain ⟨p, o, rfl, h1, _⟩ := vw_ttp r.sub vx
    obtain ⟨hj, g1, g2⟩ := List.findIdx?_eq_some_iff_getElem.mp e2
    have g1 : ws[j] = _ := of_decide_eq_true g1
    refine ⟨p, ws.map S, _, j, rfl, by rw [vw_str w1], .inl (.inr ⟨o, by rw [h1, List.map_map]; rfl⟩), by rw [List.getElem?_map, List.getElem?_eq_getElem hj, g1]; rfl, fun m hm z => ?_, k _ F H (Le.refl F) r (by simp only [ResV, Rp])⟩
    have hml : m < ws.length := by omega
    rw [List.getElem?_map, List.getElem?_eq_getElem hml] at z
    have z1 : S ws[m] = S b := by simpa using z
    have z2 := congrArg (fun q : Str => q.cps.toList) z1
    simp only [S_toList] at z2
    exact g2 m hm (decide_eq_true z2)
  · cases e⟩
section
variable {ρ : Ev} {Q : Va → Ev → Prop} {m : M Va} {ms : M (List Va)}
theorem we_methP {o : D → List D → Option Va} (h : WE m ρ fun a ρ1 => ∃ x, a.fz.get ρ1 = some x ∧ isP x = true ∧ WE ms ρ1 fun as ρ2 => WE (M.useM o a.fz as) ρ2 Q) : WE (M.methP o m ms) ρ Q :=
  we_bind (we_bind (we_fz (R.wp_mono h fun a ρ1 ⟨x, e, z, k⟩ => by unfold WE; simp only [e, z, if_true]; exact ⟨we_bind k⟩)))
end
end
end Z
namespace Z
open PySem PySem.Spec L2
def ixL (L : List (List Nat)) (w : List Nat) : Int := ((L.findIdx fun t => decide (t = w) : Nat) : Int)
theorem ixL_get {L : List (List Nat)} (h : L.Nodup) {i : Nat} (hi : i < L.length) : ixL L L[i] = (i : Int) := by
  unfold ixL
  congr 1
  refine (List.findIdx_eq hi).mpr ⟨by simp, fun j hj => ?_⟩
  simp only [decide_eq_false_iff_not]
  intro e
  have := (List.getElem_inj h).mp e
  omega
theorem ixL_back {L : List (List Nat)} {w : List Nat} (hw : w ∈ L) : L.getD (ixL L w).toNat [] = w := by
  unfold ixL
  have hx : (L.findIdx fun t => decide (t = w)) < L.length := List.findIdx_lt_length_of_exists ⟨w, hw, by simp⟩
  have := List.findIdx_getElem (w := hx)
  rw [show (((L.findIdx fun t => decide (t = w) : Nat) : Int)).toNat = L.findIdx fun t => decide (t = w) by omega, List.getD_eq_getElem?_getD, List.getElem?_eq_getElem hx]
  exact of_decide_eq_true this
theorem ixL_inc {L : List (List Nat)} (h : L.Nodup) : (L.map (ixL L)).Pairwise (· < ·) := by
  rw [List.pairwise_iff_getElem]
  intro i j hi hj hij
  rw [List.length_map] at hi hj
  rw [List.getElem_map, List.getElem_map, ixL_get h hi, ixL_get h hj]
  omega
theorem side_iff {L ws : List (List Nat)} (h : L.Nodup) (hw : ∀ w ∈ ws, w ∈ L) : (ws.map (ixL L)).Pairwise (· < ·) ↔ ws = L.filter fun w => decide (w ∈ ws) := by
  have hM : ((L.filter fun w => decide (w ∈ ws)).map (ixL L)).Pairwise (· < ·) := (ixL_inc h).sublist (List.filter_sublist.map _)
  constructor
  · intro hp
    have e : ws.map (ixL L) = (L.filter fun w => decide (w ∈ ws)).map (ixL L) := inc_uniq hp hM fun x => by
      rw [List.mem_map, List.mem_map]
      constructor
      · rintro ⟨w, h1, h2⟩
        exact ⟨w, List.mem_filter.mpr ⟨hw w h1, decide_eq_true h1⟩, h2⟩
      · rintro ⟨w, h1, h2⟩
        exact ⟨w, of_decide_eq_true (List.mem_filter.mp h1).2, h2⟩
    have back : ∀ l : List (List Nat), (∀ w ∈ l, w ∈ L) → (l.map (ixL L)).map (fun i : Int => L.getD i.toNat []) = l := fun l hl => by
      rw [List.map_map]
      have : l.map ((fun i : Int => L.getD i.toNat []) ∘ ixL L) = l.map id := List.map_congr_left fun w hw' => ixL_back (hl w hw')
      rw [this, List.map_id]
    have e2 := congrArg (fun l : List Int => l.map fun i : Int => L.getD i.toNat []) e
    have e2 : (ws.map (ixL L)).map (fun i : Int => L.getD i.toNat []) = ((L.filter fun w => decide (w ∈ ws)).map (ixL L)).map (fun i : Int => L.getD i.toNat []) := e2
    rw [back ws hw, back _ fun w hw' => (List.mem_filter.mp hw').1] at e2
    exact e2
  · intro e
    rw [e]
    exact hM
theorem opPIndex_ok {ws : List (List Nat)} {w : List Nat} (h : w ∈ ws) : opPIndex (.ttp ws) [.str w] = some (.sh (.int (ixL ws w))) := by
  have hx : (ws.findIdx fun t => decide (t = w)) < ws.length := List.findIdx_lt_length_of_exists ⟨w, h, by simp⟩
  show Option.map _ (List.findIdx? (fun t => decide (t = w)) ws) = _
  have e : List.findIdx? (fun t => decide (t = w)) ws = some (ws.findIdx fun t => decide (t = w)) := List.findIdx?_eq_some_iff_findIdx_eq.mpr ⟨hx, rfl⟩
  rw [e]
  rfl
end Z
namespace Z
open PySem PySem.Spec L2 PyProof.Rows
def MS.rr0 (c : String) : MS := fun ρ => .ret (.nw (.x0 c)) ρ
theorem ws_rr0 {c : String} {ρ : Ev} {N C B : Ev → Prop} {T : Va → Ev → Prop} (h : T (.nw (.x0 c)) ρ) : WS (MS.rr0 c) ρ N T C B := ⟨h⟩
end Z
namespace Z
open PySem PySem.Spec L2 PyProof.Rows
def leC (a b : List Nat) : Bool := !ltCps b a
theorem ltC_anti : ∀ a b : List Nat, ltCps a b = false → ltCps b a = false → a = b
  | [], [], _, _ => rfl
  | [], _ :: _, h, _ => by simp [ltCps] at h
  | _ :: _, [], _, h => by simp [ltCps] at h
  | x :: a, y :: b, h, h' => by
    simp only [ltCps, Bool.or_eq_false_iff, Bool.and_eq_false_iff, decide_eq_false_iff_not] at h h'
    have e : x = y := by omega
    subst e
    have h1 : ltCps a b = false := by rcases h.2 with z | z; · simp at z
                                      · exact z
    have h2 : ltCps b a = false := by rcases h'.2 with z | z; · simp at z
                                      · exact z
    rw [ltC_anti a b h1 h2]
theorem ltC_asym : ∀ a b : List Nat, ltCps a b = true → ltCps b a = false
  | [], [], h => by simp [ltCps] at h
  | [], _ :: _, _ => rfl
  | _ :: _, [], h => by simp [ltCps] at h
  | x :: a, y :: b, h => by
    simp only [ltCps, Bool.or_eq_true, Bool.and_eq_true, decide_eq_true_eq, beq_iff_eq] at h
    simp only [ltCps, Bool.or_eq_false_iff, Bool.and_eq_false_iff, decide_eq_false_iff_not]
    rcases h with h | ⟨rfl, h⟩
    · exact ⟨by omega, .inl (by simp; omega)⟩
    · exact ⟨by omega, .inr (ltC_asym a b h)⟩
theorem ltC_trans : ∀ a b c : List Nat, ltCps a b = true → ltCps b c = true → ltCps a c = true
  | [], [], _, h, _ => by simp [ltCps] at h
  | [], _ :: _, [], _, h => by simp [ltCps] at h
  | [], _ :: _, _ :: _, _, _ => rfl
  | _ :: _, [], _, h, _ => by simp [ltCps] at h
  | _ :: _, _ :: _, [], _, h => by simp [ltCps] at h
  | x :: a, y :: b, z :: c, h, h' => by
    simp only [ltCps, Bool.or_eq_true, Bool.and_eq_true, decide_eq_true_eq, beq_iff_eq] at h h' ⊢
    rcases h with h | ⟨rfl, h⟩ <;> rcases h' with h' | ⟨rfl, h'⟩
    · exact .inl (by omega)
    · exact .inl h
    · exact .inl h'
    · exact .inr ⟨rfl, ltC_trans a b c h h'⟩
theorem leC_trans (a b c : List Nat) (h : leC a b = true) (h' : leC b c = true) : leC a c = true := by
  unfold leC at *
  simp only [Bool.not_eq_true'] at *
  cases e : ltCps c a with
  | false => rfl
  | true =>
    by_cases q : ltCps a b = true
    · rw [ltC_trans c a b e q] at h'; cases h'
    · have q : ltCps a b = false := by simpa using q
      have := ltC_anti a b q h
      subst this
      rw [e] at h'; cases h'
theorem leC_total (a b : List Nat) : (leC a b || leC b a) = true := by
  unfold leC
  cases e : ltCps b a with
  | false => rfl
  | true => rw [ltC_asym b a e]; rfl
def srtT (l : List (List Nat)) : List (List Nat) := l.mergeSort leC
theorem rising_pw : ∀ (ys : List Str) (p : Str), risingS p ys = true → ((p :: ys).map fun z => z.cps.toList).Pairwise fun a b => leC a b = true
  | [], p, _ => by simp
  | x :: ys, p, h => by
    simp only [risingS, Bool.and_eq_true] at h
    have ih := rising_pw ys x h.2
    have h1 : leC p.cps.toList x.cps.toList = true := h.1
    rw [List.map_cons, List.pairwise_cons]
    refine ⟨fun b hb => ?_, ih⟩
    rw [List.map_cons, List.mem_cons] at hb
    rcases hb with rfl | hb
    · exact h1
    · rw [List.map_cons, List.pairwise_cons] at ih
      exact leC_trans _ _ _ h1 (ih.1 b hb)
theorem sorted_pw {ys : List Str} (h : sortedS ys = true) : (ys.map fun z => z.cps.toList).Pairwise fun a b => leC a b = true := by
  cases ys with
  | nil => simp
  | cons x r => exact rising_pw r x h
theorem srt_of {ts : List (List Nat)} {ys : List Str} (hp : ys.Perm (ts.map S)) (h : sortedS ys = true) : ys.map (fun z => z.cps.toList) = srtT ts := by
  have h2 : (ys.map fun z => z.cps.toList).Perm ts := by
    have := hp.map fun z : Str => z.cps.toList
    rw [List.map_map] at this
    have e : ts.map ((fun z : Str => z.cps.toList) ∘ S) = ts := by
      have : ts.map ((fun z : Str => z.cps.toList) ∘ S) = ts.map id := List.map_congr_left fun t _ => S_toList t
      rw [this, List.map_id]
    rwa [e] at this
  refine List.Perm.eq_of_pairwise (le := fun a b => leC a b = true) (fun a b _ _ z z' => ?_) (sorted_pw h) (List.pairwise_mergeSort leC_trans leC_total ts) (h2.trans (List.mergeSort_perm ts leC).symm)
  unfold leC at z z'
  exact ltC_anti a b (by simpa using z') (by simpa using z)
def opSortT : List D → Option Va
  | [.lst l] => (allT l).bind fun ts => if ts.length < 64 then some (.nw (.lst ((srtT ts).map .str))) else none
  | _ => none
section
variable {X : Cx}
theorem bf_sortT : BF X (.builtin "sorted") opSortT := ⟨_, cr_sortedS, fun G F H ρ σ xs ds s Q r vw e k => by
  unfold opSortT at e
  split at e
  · obtain ⟨ts, e1, e⟩ := bind_some e
    split at e
    · rename_i z
      cases e
      obtain ⟨w, rfl, w1⟩ := vwl1 vw
      obtain ⟨a, vs, rfl, h1, q⟩ := vw_lst w1
      refine ⟨a, ts.map S, rfl, SqL.of (by rw [← allT_rps q e1]; exact h1), by rw [List.length_map]; exact z, fun ys p hp hs n => ?_⟩
      have e2 := srt_of hp hs
      rw [← e2] at k
      obtain ⟨r', q'⟩ := new_lst r (rps_ofStrs ys) n
      exact k _ F _ (Le.refl F) r' q'
    · cases e
  · cases e⟩
end
end Z
namespace Z
open PySem PySem.Spec PyProof.Rows L2
open LamX (CodeO Tabs ExtN TabB lamEnv)
/-- the lambda's scope over the maker's scope sc and names N: one parameter x; P: its own names -/
structure LaS (sc scope : Scope) (N : List Str) (x : Str) (P : List Str) : Prop where
  kind : scope.kind = .function
  co : scope.isCoroutine = false
  gen : scope.isGenerator = false
  nc : ∀ y ∈ scope.names, y.2 ≠ .cell
  fr : ∀ y ∈ scope.names, y.2 = .free → sc.names.lookup y.1 = some .cell ∨ sc.names.lookup y.1 = some .free
  par : scope.names.lookup x = some .local
  own : ∀ y ∈ scope.names, y.2 = .local → y.1 ∉ N
  p0 : P[0]? = some x
section
variable {X : Cx} {K' : Frag} {P : List Str} {pins : List (Addr × Obj)} {σ : St} {H Hv : Hp} {s : Shared} {A : Around} {scope : Scope} {x : Str} {f c' : Addr} {v : V} {u : Value}
theorem LaS.has (L : LaS X.env.scope scope X.N x P) (ok : X.Ok) (y : Str × NameKind) (hy : y ∈ scope.names) (e : y.2 = .free) : ∃ c, X.env.cells.lookup y.1 = some c :=
  (L.fr y hy e).elim (fun k => ok.has _ (.inl k)) fun k => ok.has _ (.inr k)
/-- the closure's cells are the maker's -/
theorem LaS.cl (L : LaS X.env.scope scope X.N x P) (ok : X.Ok) {y : Str} {c : Addr} (e : (cloFrom X.env.cells scope.names []).lookup y = some c) : X.env.cells.lookup y = some c := by
  rcases cloFrom_mem (PySem.mem_of_lookup e) with hm | ⟨h1, h2⟩
  · cases hm
  · obtain ⟨c1, hc⟩ := L.has ok _ h1 rfl
    have hc : X.env.cells.lookup y = some c1 := hc
    have : c = c1 := by rw [h2, hc] <;> rfl
    rw [this]; exact hc
end
end Z
namespace Z
open PySem PySem.Spec PyProof.Rows L2
open LamX (CodeO Tabs ExtN TabB lamEnv)
end Z
namespace Z
open PySem PySem.Spec PyProof.Rows L2
open LamX (CodeO TabS Tabs TabB lamEnv)
end Z
namespace Z
open PySem PySem.Spec PyProof.Rows L2
open LamX (CodeO TabS Tabs TabB lamEnv)
end Z
namespace Z
open PySem PySem.Spec PyProof.Rows L2
open LamX (TabB)
/-- the lambda's scope, looked at -/
def laSB (sc scope : Scope) (N : List Str) (x : Str) (P : List Str) : Bool :=
  decide (scope.kind = .function) && !scope.isCoroutine && !scope.isGenerator && (scope.names.all fun y => !decide (y.2 = .cell) && (!decide (y.2 = .free) || decide (sc.names.lookup y.1 = some .cell) || decide (sc.names.lookup y.1 = some .free)) && (!decide (y.2 = .local) || !N.contains y.1)) && decide (scope.names.lookup x = some .local) && decide (P[0]? = some x)
theorem LaS.of {sc scope : Scope} {N : List Str} {x : Str} {P : List Str} (h : laSB sc scope N x P = true) : LaS sc scope N x P := by
  unfold laSB at h
  simp only [Bool.and_eq_true, Bool.or_eq_true, Bool.not_eq_true', decide_eq_true_eq, decide_eq_false_iff_not, List.all_eq_true] at h
  obtain ⟨⟨⟨⟨⟨h1, h2⟩, h3⟩, h4⟩, h5⟩, h6⟩ := h
  refine ⟨h1, h2, h3, fun y hy => (h4 y hy).1.1, fun y hy e => ?_, h5, fun y hy e => ?_, h6⟩
  · rcases (h4 y hy).1.2 with (z | z) | z
    · exact absurd e z
    · exact .inl z
    · exact .inr z
  · rcases (h4 y hy).2 with z | z
    · exact absurd e z
    · intro hm
      rw [List.contains_iff_mem.mpr hm] at z; cases z
def MkK (K : Frag) (cs : List (Addr × Addr)) (d : He.DefD) : Prop := ∀ fd oc od osl, K.lookup (He.fAd K d.at_) = some ⟨oc, od, .func fd, osl⟩ → ∃ c B, (c, B) ∈ cs ∧ fd.code = .ref c ∧ (B, laName d.qual) ∈ TTab K ∧ ∀ p ∈ TTab K, p.1 = B → p.2 = laName d.qual
/-- what the head tells -/
structure Says (fa : List He.Fa) (fn : List He.DefD) (ex : Frag → Bool) (ms : List He.DefD) (h : Heap) (K K' : Frag) (cs : List (Addr × Addr)) : Prop where
  kin : K.In h
  kin' : K'.In h
  kw : Kw K K'
  says : He.SaysD fa fn K
  says' : He.SaysD fa fn K'
  exK : ex K = true
  exK' : ex K' = true
  cst : ∀ p ∈ cs, h.get? p.2 = some { cls := .none, data := .fields #[] }
  csn : ∀ p ∈ cs, K.lookup p.2 = none
  csn' : ∀ p ∈ cs, K'.lookup p.2 = none
  csc : ∀ p ∈ cs, PySem.W.CodeHd h p.1 p.2
  tab : ∀ p ∈ TTab K, ∃ c, (c, p.1) ∈ cs
  mks : ∀ d ∈ ms, MkK K cs d
def hookN (n : Nat) (fa : List He.Fa) (fn : List He.DefD) (ex : Frag → Bool) : PySem.W.Hook where
  α := He.AlD × Bool
  obs := fun s => obsN n fa fn ex s.heap.get?
  val := fun _ => (He.valD fn, true)
  says := fun _ h => ∃ K : Frag, K.In h ∧ He.SaysD fa fn K ∧ ex K = true ∧ TTab K = []
  of := fun _ _ e => ⟨_, He.frG_in, congrArg (fun z : He.AlD × Bool => z.1) e, by
    have z := congrArg (fun z : He.AlD × Bool => z.2) e
    have z := Bool.and_eq_true_iff.mp z
    exact ⟨z.1, List.isEmpty_iff.mp z.2⟩⟩
  keeps := fun _ _ _ ⟨K, hK, c⟩ k => ⟨K, PySem.W.Frag.In.keeps hK k, c⟩
theorem says_no {fa : List He.Fa} {fn : List He.DefD} {ex : Frag → Bool} {h : Heap} {K : Frag} (a : K.In h) (b : He.SaysD fa fn K) (c : ex K = true) (d : TTab K = []) : Says fa fn ex [] h K K [] where
  kin := a
  kin' := a
  kw := Kw.self d
  says := b
  says' := b
  exK := c
  exK' := c
  cst := fun p hp => by cases hp
  csn := fun p hp => by cases hp
  csn' := fun p hp => by cases hp
  csc := fun p hp => by cases hp
  tab := fun p hp => by rw [d] at hp; cases hp
  mks := fun d hd => by cases hd
end Z
namespace Z
open PySem PySem.Spec L2
def sdStep (b : Nat) (found : List (List Nat)) (o : Nat) : List (List Nat) := if o = b then found.map (· ++ [o]) else if o = inv b then found else found ++ found.map (· ++ [o])
def sdF (b : Nat) (l : List Nat) : List (List Nat) := l.foldl (sdStep b) [[]]
theorem opAll_trues {α : Type} (l : List α) : opAll [.lst (l.map fun _ => D.bl true)] = some (.sh (.bl true)) := by
  have : (l.map fun _ => D.bl true) = List.replicate l.length (.bl true) := List.map_const' ..
  rw [this]; exact opAll_rep _
end Z
namespace Z
open PySem PySem.Spec L2
end Z
namespace Z
open PySem PySem.Spec
theorem IsRot.mem {m s : List Nat} (h : IsRot m s) (c : Nat) : c ∈ s ↔ c ∈ m := by
  obtain ⟨u, v, rfl, rfl⟩ := h
  simp [or_comm]
end Z
namespace Z
open PySem PySem.Spec
/-- the letters, no contraries, that stand in a word, or whose contraries do -/
def lowsIn (n : Int) (w : List Nat) : List Nat := (lows n).filter fun c => decide (c ∈ w) || decide (inv c ∈ w)
theorem lowsIn_mem {n : Int} {w : List Nat} {c : Nat} : c ∈ lowsIn n w ↔ c ∈ lows n ∧ (c ∈ w ∨ inv c ∈ w) := by
  unfold lowsIn
  simp
theorem lowsIn_sub (n : Int) (w : List Nat) : (lowsIn n w).Sublist (lows n) := List.filter_sublist
theorem srt_lows {n : Int} (h : 1 ≤ n) (h' : n ≤ 4) {e : List Nat} (g : Exg n e) : srtT (e.map fun c => [97 + li c]) = (lows n).map fun c => [c] := by
  have hp : (e.map fun c => [97 + li c]).Perm ((lows n).map fun c => [c]) := by
    have h1 := g.perm.map fun i => [97 + i]
    rw [List.map_map] at h1
    have h2 : (List.range n.toNat).map (fun i => [97 + i]) = (lows n).map fun c => [c] := by
      rcases four h h' with rfl | rfl | rfl | rfl <;> decide
    rw [h2] at h1
    exact h1
  have hs : ((lows n).map fun c => [c]).Pairwise fun a b => leC a b = true := by
    rcases four h h' with rfl | rfl | rfl | rfl <;> decide
  unfold srtT
  refine List.Perm.eq_of_pairwise (le := fun a b => leC a b = true) (fun a b _ _ z z' => ?_) (List.pairwise_mergeSort leC_trans leC_total _) hs ((List.mergeSort_perm _ leC).trans hp)
  unfold leC at z z'
  exact ltC_anti a b (by simpa using z') (by simpa using z)
/-- how many letters a word needs; the road to them -/
noncomputable def needK (n : Int) (w : List Nat) : Nat := (lowsIn n ((short n [ring w]).2.headD [])).length
theorem ring_row {n : Int} {w : List Nat} (hw : ∀ c ∈ w, c ∈ Ln n) (hp : Plain w) : RowOk n [ring w] := fun v hv => by
  rw [List.mem_singleton.mp hv]; exact ring_ok hw hp
theorem short1 {n : Int} (h : 1 ≤ n) (h' : n ≤ 4) {r : List Nat} (hr : RowOk n [r]) : ∃ s, (short n [r]).2 = [s] := by
  have := (short_ok h h' hr).2.2.2.2
  match e : (short n [r]).2, this with
  | [s], _ => exact ⟨s, rfl⟩
theorem eqDs_chars2 : ∀ a b : List Nat, eqDs (chars a) (chars b) = decide (a = b)
  | [], [] => rfl
  | [], _ :: _ => rfl
  | _ :: _, [] => rfl
  | x :: a, y :: b => by
    have := eqDs_chars2 a b
    unfold chars at this ⊢
    simp only [List.map_cons, eqDs, eqD, this]
    by_cases h1 : x = y <;> by_cases h2 : a = b <;> simp [h1, h2]
theorem eqD_lchars (a b : List Nat) : eqD (.lst (chars a)) (.lst (chars b)) = decide (a = b) := by simp only [eqD]; exact eqDs_chars2 a b
theorem okD_lchars {w : List Nat} (h : Lw w) : okD 64 (.lst (chars w)) = true := okD_chars h
theorem opSortT_ok {ts : List (List Nat)} (h : ts.length < 64) : opSortT [.lst (ts.map .str)] = some (.nw (.lst ((srtT ts).map .str))) := by
  unfold opSortT
  dsimp only
  rw [allT_strs]
  simp only [Option.bind_some]
  rw [if_pos h]
theorem okD_stepA {n : Int} {m : Nat} {s : Stp} (h : 1 ≤ n) (h' : n ≤ 4) (g : StepOk n s) : okD (m + 2) (stepD s) = true := by
  cases s with
  | chg b sd =>
    have g : Chg n b sd := g
    exact okD_tupA fun d hd => by
      simp only [List.mem_cons, List.not_mem_nil, or_false] at hd
      rcases hd with rfl | rfl | rfl
      · exact okD_strA (by decide)
      · exact okD_strA (Lw.one (Ln_lw n b g.bn)).ok
      · exact okD_tupA (okD_charsA fun c hc => Ln_lw n c (g.sub.subset hc))
  | exc e =>
    have g : Exg n e := g
    exact okD_tupA fun d hd => by
      simp only [List.mem_cons, List.not_mem_nil, or_false] at hd
      rcases hd with rfl | rfl
      · exact okD_strA (by decide)
      · exact okD_tupA (okD_charsA g.lw)
end Z
namespace Z
open PySem PySem.Spec L2
def isx (L s : List Nat) : List Int := s.map fun c => (L.idxOf c : Int)
def sLt (L a b : List Nat) : Bool := decide (isx L a < isx L b)
def sdSort (L : List Nat) (l : List (List Nat)) : List (List Nat) := l.mergeSort fun a b => !sLt L b a
def lnIn (n : Int) (w : List Nat) : List Nat := (Ln n).filter fun c => decide (c ∈ w) || decide (inv c ∈ w)
/-- sides of those for a letter, in order -/
def sdsIn (n : Int) (w : List Nat) (b : Nat) : List (List Nat) := sdSort (lnIn n w) (sdF b (lnIn n w))
/-- the changes that keep a ring's length -/
def lvl (n : Int) (w : List Nat) : Chs := (lnIn n w).flatMap fun b => ((sdsIn n w b).filter fun sd => decide (asum (leaves sd) (ties [w]) = (rowCount [w] b : Int))).map fun sd => (b, sd)
end Z
namespace Z
open PySem PySem.Spec L2
abbrev NT := List (Nat × Nat)
def nkeys (T : NT) : List Nat := T.map (·.1)
def nmStep (T : NT) (x : Nat) : NT := if x ∈ nkeys T then T else T ++ [(x, 97 + T.length / 2), (inv x, inv (97 + T.length / 2))]
def nmT (w : List Nat) : NT := w.foldl nmStep []
def nmL (T : NT) (x : Nat) : Nat := ((T.find? fun e => decide (e.1 = x)).map (·.2)).getD 0
def named (w : List Nat) : List Nat := w.map (nmL (nmT w))
def formW (w : List Nat) : List Nat := (least wlt ((rots w).map named)).getD []
end Z
namespace Z
open PySem PySem.Spec L2
end Z
namespace Z
open PySem PySem.Spec L2
end Z
namespace Z
open PySem PySem.Spec L2
end Z
namespace Z
open PySem PySem.Spec L2
section
variable {β : Type} (v : β → D)
def tk (A : List (List Nat × β)) : List (List Nat) := A.map (·.1)
theorem tk_app (A B : List (List Nat × β)) : tk (A ++ B) = tk A ++ tk B := List.map_append
end
abbrev Ch := Nat × List Nat
def stpC (n : Int) (f : List Nat) (c : Ch) : List Nat := formW (ring (rt (chg n c.1 c.2) f))
def stp (n : Int) (f : List Nat) : List (List Nat) := (lvl n f).map (stpC n f)
inductive Rch (n : Int) (s : List Nat) : List Nat → Prop
  | one : Rch n s s
  | on {f g : List Nat} : Rch n s f → g ∈ stp n f → Rch n s g
/-- a row of forms all of whose steps stay in it -/
def Cls (n : Int) (s : List Nat) (F : List (List Nat)) : Prop := F.Nodup ∧ s ∈ F ∧ (∀ f ∈ F, Rch n s f) ∧ ∀ f ∈ F, ∀ g ∈ stp n f, g ∈ F
abbrev Wy := List (List Nat × Option (List Nat × Ch))
inductive Tre (n : Int) (s : List Nat) : Wy → Prop
  | root : Tre n s [(s, none)]
  | snoc {A : Wy} {f : List Nat} {c : Ch} : Tre n s A → f ∈ tk A → c ∈ lvl n f → stpC n f c ∉ tk A → Tre n s (A ++ [(stpC n f c, some (f, c))])
theorem Tre.nd {n : Int} {s : List Nat} {A : Wy} (t : Tre n s A) : (tk A).Nodup := by
  induction t with
  | root => simp [tk]
  | snoc t hf hc hn ih =>
    rw [tk_app]
    refine List.nodup_append.mpr ⟨ih, by simp [tk], fun a ha b hb e => ?_⟩
    have : b = _ := List.mem_singleton.mp hb
    rw [e, this] at ha
    exact hn ha
theorem Tre.start {n : Int} {s : List Nat} {A : Wy} (t : Tre n s A) : s ∈ tk A := by
  induction t with
  | root => simp [tk]
  | snoc t hf hc hn ih => rw [tk_app]; exact List.mem_append_left _ ih
structure Bfs (n : Int) (s : List Nat) (K W : List (List Nat)) : Prop where
  nd : K.Nodup
  st : s ∈ K
  rc : ∀ f ∈ K, Rch n s f
  wk : ∀ x ∈ W, x ∈ K
  cl : ∀ f ∈ K, f ∈ W ∨ ∀ g ∈ stp n f, g ∈ K
structure Bfi (n : Int) (s a : List Nat) (K W : List (List Nat)) (dn : List Ch) : Prop where
  nd : K.Nodup
  st : s ∈ K
  rc : ∀ f ∈ K, Rch n s f
  wk : ∀ x ∈ W, x ∈ K
  ak : a ∈ K
  cl : ∀ f ∈ K, f = a ∨ f ∈ W ∨ ∀ g ∈ stp n f, g ∈ K
  ds : ∀ c ∈ dn, stpC n a c ∈ K
section
variable {n : Int} {s a : List Nat} {K W : List (List Nat)} {dn : List Ch}
theorem Bfs.root (n : Int) (s : List Nat) : Bfs n s [s] [s] := ⟨by simp, by simp, fun f hf => by rw [List.mem_singleton.mp hf]; exact .one, fun x hx => hx, fun f hf => .inl hf⟩
theorem Bfi.new {c : Ch} (h : Bfi n s a K W dn) (hl : c ∈ lvl n a) (hc : stpC n a c ∉ K) : Bfi n s a (K ++ [stpC n a c]) (W ++ [stpC n a c]) (dn ++ [c]) := by
  refine ⟨?_, List.mem_append_left _ h.st, ?_, ?_, List.mem_append_left _ h.ak, ?_, ?_⟩
  · refine List.nodup_append.mpr ⟨h.nd, by simp, fun x hx y hy e => ?_⟩
    rw [e, List.mem_singleton.mp hy] at hx
    exact hc hx
  · intro f hf
    rcases List.mem_append.mp hf with hf | hf
    · exact h.rc f hf
    · rw [List.mem_singleton.mp hf]; exact .on (h.rc a h.ak) (List.mem_map.mpr ⟨c, hl, rfl⟩)
  · intro x hx
    rcases List.mem_append.mp hx with hx | hx
    · exact List.mem_append_left _ (h.wk x hx)
    · exact List.mem_append_right _ hx
  · intro f hf
    rcases List.mem_append.mp hf with hf | hf
    · rcases h.cl f hf with z | z | z
      · exact .inl z
      · exact .inr (.inl (List.mem_append_left _ z))
      · exact .inr (.inr fun g hg => List.mem_append_left _ (z g hg))
    · exact .inr (.inl (List.mem_append_right _ hf))
  · intro d hd
    rcases List.mem_append.mp hd with hd | hd
    · exact List.mem_append_left _ (h.ds d hd)
    · rw [List.mem_singleton.mp hd]; simp
theorem Bfs.cls (h : Bfs n s K []) : Cls n s K := ⟨h.nd, h.st, h.rc, fun f hf => (h.cl f hf).elim (fun z => by cases z) id⟩
end
end Z
namespace L2
open PySem PySem.Spec PyProof.Rows
end L2
namespace Z
open PySem PySem.Spec L2
end Z
namespace Z
open PySem PySem.Spec L2
end Z
namespace Z
open PySem PySem.Spec L2
end Z
namespace Z
open PySem PySem.Spec L2
abbrev Fe := Nat × Nat × Int
def fePl (e : Fe) : List Int := [(idx e.1 : Int), (idx e.2.1 : Int)]
def feLt (a b : Fe) : Bool := decide (fePl a < fePl b)
/-- what goes along a tie -/
def fe1 (T R : List (LP × Int)) (e : LP × Int) : List Fe :=
  (if 0 < e.2 - rmR R e.1.1 e.1.2 then [(e.1.1, e.1.2, e.2 - rmR R e.1.1 e.1.2)] else []) ++ (if e.2 - rmR R e.1.1 e.1.2 < 0 then [(e.1.2, e.1.1, 0 - (e.2 - rmR R e.1.1 e.1.2))] else [])
def fes (T R : List (LP × Int)) : List Fe := T.flatMap (fe1 T R)
def fls (T R : List (LP × Int)) : List Fe := (fes T R).mergeSort fun a b => !feLt b a
end Z
namespace Z
open PySem PySem.Spec L2
/-- the unlike ones of a list, as they come up -/
def ddStep (σ : List Nat) (c : Nat) : List Nat := if c ∈ σ then σ else σ ++ [c]
def dd (l : List Nat) : List Nat := l.foldl ddStep []
theorem dd_snoc (l : List Nat) (c : Nat) : dd (l ++ [c]) = ddStep (dd l) c := by unfold dd; rw [List.foldl_append]; rfl
theorem dd_mem {c : Nat} : ∀ {l : List Nat}, c ∈ dd l ↔ c ∈ l := by
  intro l
  induction h : l.length generalizing l with
  | zero =>
    have := List.eq_nil_of_length_eq_zero h
    subst this; exact Iff.rfl
  | succ k ih =>
    obtain ⟨l, d, rfl⟩ : ∃ l' d, l = l' ++ [d] := by
      rcases List.eq_nil_or_concat l with rfl | ⟨l', d, rfl⟩
      · simp at h
      · exact ⟨l', d, List.concat_eq_append ..⟩
    have i := ih (l := l) (by simpa using h)
    rw [dd_snoc]
    unfold ddStep
    by_cases z : d ∈ dd l
    · rw [if_pos z, i, List.mem_append, List.mem_singleton]
      exact ⟨.inl, fun q => q.elim id fun q => i.mp (by rw [q]; exact z)⟩
    · rw [if_neg z, List.mem_append, List.mem_append, i]
end Z
namespace PyProof.Rows
open PySem PySem.Spec
end PyProof.Rows
namespace PySem
end PySem
namespace L2
open PySem PySem.Spec PyProof.Rows
end L2
namespace Z
open PySem PySem.Spec L2
end Z
namespace Z
open PySem PySem.Spec L2
theorem Tre.at {n : Int} {s f : List Nat} {A : Wy} (t : Tre n s A) (hf : f ∈ tk A) : ∃ U x V, A = U ++ [(f, x)] ++ V ∧ Tre n s (U ++ [(f, x)]) := by
  induction t with
  | root =>
    have : f = s := List.mem_singleton.mp hf
    subst this
    exact ⟨[], none, [], rfl, .root⟩
  | @snoc A g c t hg hc hn ih =>
    rw [tk_app] at hf
    rcases List.mem_append.mp hf with hf | hf
    · obtain ⟨U, x, V, e, tt⟩ := ih hf
      exact ⟨U, x, V ++ [(stpC n g c, some (g, c))], by rw [e, List.append_assoc], tt⟩
    · have : f = stpC n g c := List.mem_singleton.mp hf
      subst this
      exact ⟨A, some (g, c), [], by simp, .snoc t hg hc hn⟩
end Z
namespace Z
open PySem PySem.Spec L2
def Along (n : Int) (rs : List (List Nat)) (B : Nat) (ss : List Stp) : Prop := ∀ pre post, ss = pre ++ post → rowLen (lastR n rs pre) ≤ B
theorem Along.nil {n : Int} {rs : List (List Nat)} {B : Nat} (h : rowLen rs ≤ B) : Along n rs B [] := fun pre post e => by
  have : pre = [] := (List.append_eq_nil_iff.mp e.symm).1
  rw [this]; exact h
theorem Along.app {n : Int} {rs : List (List Nat)} {B : Nat} {ss tt : List Stp} (h : Along n rs B ss) (k : Along n (lastR n rs ss) B tt) : Along n rs B (ss ++ tt) := fun pre post e => by
  rcases List.append_eq_append_iff.mp e with ⟨u, e1, e2⟩ | ⟨u, e1, e2⟩
  · rw [e1, lastR_app]
    exact k u post e2
  · exact h pre u e1
theorem Along.back {n : Int} (h : 1 ≤ n) (h' : n ≤ 4) {rs : List (List Nat)} (hr : RowOk n rs) {B : Nat} {ss : List Stp} (hs : ∀ s ∈ ss, StepOk n s) (k : Along n rs B ss) : Along n (lastR n rs ss) B (roadB n ss) := fun pre post e => by
  have e2 : ss.reverse.map (stepB n) = pre ++ post := by
    have : roadB n ss = ss.reverse.map (stepB n) := by unfold roadB; first | rfl | simp
    rw [← this]; exact e
  obtain ⟨a, b, e3, e4, e5⟩ := List.map_eq_append_iff.mp e2
  have e6 : ss = b.reverse ++ a.reverse := by
    have := congrArg List.reverse e3
    simpa using this
  have e7 : pre = roadB n a.reverse := by
    rw [← e4]
    have : roadB n a.reverse = a.reverse.reverse.map (stepB n) := by unfold roadB; first | rfl | simp
    rw [this, List.reverse_reverse]
  have h1 : ∀ s ∈ b.reverse, StepOk n s := fun s hm => hs s (by rw [e6]; exact List.mem_append_left _ hm)
  have h2 : ∀ s ∈ a.reverse, StepOk n s := fun s hm => hs s (by rw [e6]; exact List.mem_append_right _ hm)
  rw [e7, e6, lastR_app, lastR_back h h' (lastR_ok h h' hr h1) h2]
  exact k b.reverse a.reverse e6
theorem Along.le {n : Int} {rs : List (List Nat)} {B C : Nat} {ss : List Stp} (h : Along n rs B ss) (k : B ≤ C) : Along n rs C ss := fun pre post e => Nat.le_trans (h pre post e) k
/-- a dict of numbers: what .get(c, 0) tells -/
structure Gd (l : List (D × D)) (g : Nat → Int) : Prop where
  kd : Kd l
  get : ∀ c, (dget l (.str [c]) = none ∧ g c = 0) ∨ dget l (.str [c]) = some (.int (g c))
theorem Gd.nil : Gd [] fun _ => 0 := ⟨fun e he => (by cases he), fun c => .inl ⟨dget_nil _, rfl⟩⟩
theorem Gd.put {l : List (D × D)} {g : Nat → Int} (h : Gd l g) (hl : l.length < big) (c : Nat) (v : Int) : ∃ l', dputO l (.str [c]) (.int v) = some l' ∧ l'.length ≤ l.length + 1 ∧ Gd l' fun x => if x = c then v else g x := by
  refine ⟨_, dputO_str h.kd hl _ _, dput_len _ _ _, dput_kd h.kd _ _, fun x => ?_⟩
  rw [dget_put h.kd]
  by_cases z : x = c
  · subst z
    rw [if_pos rfl]
    exact .inr (by rw [if_pos rfl])
  · rw [if_neg (fun q : [x] = [c] => z (List.cons.inj q).1)]
    simp only [if_neg z]
    exact h.get x
end Z
namespace Z
open PySem PySem.Spec L2
end Z
namespace Z
open PySem PySem.Spec PyProof.Rows L2
section
variable {P : Program} {w : World} {A : Around} {E : Value → Shared → Prop} {s : Shared} {K : Type} [DecidableEq K] {kn : KeyKind P w K}
/-- what the set has of the first i tuples -/
structure Has (ks : List (Addr × List K)) (i : Nat) (L : List (Addr × List K)) : Prop where
  sub : ∀ r ∈ L, r ∈ ks.take i
  all : ∀ r ∈ ks.take i, r.2 ∈ L.map (·.2)
  len : L.length ≤ i
theorem Has.step {ks L L' : List (Addr × List K)} {i : Nat} {x : Addr × List K} (g : Has ks i L) (h : ks[i]? = some x) (c1 : x.2 ∈ L.map (·.2) → L' = L) (c2 : x.2 ∉ L.map (·.2) → L'.Perm (x :: L)) : Has ks (i + 1) L' := by
  have tk : ks.take (i + 1) = ks.take i ++ [x] := by rw [List.take_add_one, h]; rfl
  by_cases c : x.2 ∈ L.map (·.2)
  · rw [c1 c]
    refine ⟨fun r hr => by rw [tk]; exact List.mem_append_left _ (g.sub r hr), fun r hr => ?_, Nat.le_succ_of_le g.len⟩
    rw [tk] at hr
    rcases List.mem_append.mp hr with z | z
    · exact g.all r z
    · rw [List.mem_singleton.mp z]; exact c
  · have pm := c2 c
    refine ⟨fun r hr => ?_, fun r hr => ?_, by rw [pm.length_eq]; exact Nat.succ_le_succ g.len⟩
    · rw [tk]
      rcases List.mem_cons.mp (pm.mem_iff.mp hr) with e | z
      · rw [e]; simp
      · exact List.mem_append_left _ (g.sub r z)
    · rw [(pm.map (·.2)).mem_iff, List.map_cons]
      rw [tk] at hr
      rcases List.mem_append.mp hr with z | z
      · exact List.mem_cons_of_mem _ (g.all r z)
      · rw [List.mem_singleton.mp z]; exact List.mem_cons_self
end
end Z
namespace Z
open PySem PySem.Spec PyProof.Rows L2
end Z
namespace L2
open PySem PySem.Spec PyProof.Rows
end L2
namespace Z
open PySem PySem.Spec L2
end Z
namespace Z
open PySem PySem.Spec L2
end Z
namespace Z
open PySem PySem.Spec L2
def reps (k : Nat) (R : List (List Nat)) : List (List Nat) := (List.replicate k R).flatten
def pairsN (n : Int) : List LP := (lows n).flatMap fun x => ((lows n).filter fun y => decide (x < y)).map fun y => (x, y)
def E1 (n : Int) : List (List Nat) := (lows n).map fun x => ring [x]
def E2 (n : Int) : List (List Nat) := (pairsN n).map fun p => ring [p.1, p.2]
def E0 (n : Int) : List (List Nat) := reps 25 (E1 n) ++ E2 n
end Z
namespace Z
open PySem PySem.Spec L2
theorem Alph.step {n : Int} (h : 1 ≤ n) (h' : n ≤ 4) {s : Stp} (g : StepOk n s) : Alph n (stepT n s) (stepT n (stepB n s)) :=
  ⟨wn_step h h' g, wn_step h h' (stepB_ok h h' g), step_back h h' g, by
    have := step_back h h' (stepB_ok h h' g)
    rw [stepB_stepB h h' g] at this
    exact this⟩
theorem Alph.comp {n : Int} (h : 1 ≤ n) (h' : n ≤ 4) {A A' B B' : List (List Nat)} (a : Alph n A A') (b : Alph n B B') : Alph n (thn A B) (thn B' A') := by
  have key : ∀ {A A' B B' : List (List Nat)}, Alph n A A' → Alph n B B' → thn (thn A B) (thn B' A') = same n := fun {A A' B B'} a b => by
    have e1 : thn (thn A B) (thn B' A') = A.map fun w => rt A' (rt B' (rt B w)) := by
      unfold thn
      rw [List.map_map]
      refine List.map_congr_left fun w _ => ?_
      show rt (thn B' A') (rt B w) = _
      exact rt_thn (wn_tl b.w') (wn_tl a.w') _
    have e2 : (A.map fun w => rt A' (rt B' (rt B w))) = A.map fun w => rt A' w := List.map_congr_left fun w hw => by
      have e3 : rt B' (rt B w) = lay w := by
        rw [← rt_thn (wn_tl b.w) (wn_tl b.w'), b.i1]
        unfold rt
        rw [F_same h h' (a.w w hw)]
      rw [e3]
      exact rt_lay (wn_tl a.w') fun c hc => Ln_lw n c (a.w w hw c hc)
    rw [e1, e2]
    exact a.i1
  exact ⟨wn_thn h h' b.w, wn_thn h h' a.w', key a b, key b.symm a.symm⟩
theorem rowT_there_back {n : Int} (h : 1 ≤ n) (h' : n ≤ 4) {A A' : List (List Nat)} (a : Alph n A A') {rs : List (List Nat)} (hr : RowOk n rs) : rowT A' (rowT A rs) = rs := by
  rw [rowT_thn (wn_tl a.w) (wn_tl a.w'), a.i1]
  exact rowT_same h h' hr
end Z
namespace Z
open PySem PySem.Spec L2
theorem Rch.trans {n : Int} {s f g : List Nat} (a : Rch n s f) (b : Rch n f g) : Rch n s g := by
  induction b with
  | one => exact a
  | on _ hg ih => exact .on ih hg
end Z
namespace Z
open PySem PySem.Spec L2
theorem row1 (w : List Nat) : rowLen [w] = w.length := by simp [rowLen]
theorem rowT1 (T : List (List Nat)) (w : List Nat) : rowT T [w] = [ring (rt T w)] := rfl
/-- how often the letters of shortest rows of one orbit stand, in some order -/
theorem counts_perm {n : Int} (h : 1 ≤ n) (h' : n ≤ 4) {rs T T' : List (List Nat)} (g : Alph n T T') (hr : RowOk n rs) (hm : MinR n rs) (hm2 : MinR n (rowT T rs)) (t : Nat) :
    ((lows n).map (rowCount rs)).countP (fun c => decide (t < c)) = ((lows n).map (rowCount (rowT T rs))).countP fun c => decide (t < c) := by
  have a := dom h h' g hr hm t
  have b := dom h h' g.symm (rowT_ok h h' g.w rs) hm2 t
  rw [rowT_there_back h h' g hr] at b
  omega
end Z
namespace Z
open PySem PySem.Spec L2
/-- an alphabet leads the one ring to the other -/
def Orb (n : Int) (w v : List Nat) : Prop := ∃ T T', Alph n T T' ∧ ring (rt T w) = v
theorem Alph.same {n : Int} (h : 1 ≤ n) (h' : n ≤ 4) : Alph n (same n) (same n) := by
  have e := thn_same h h' (wn_same h h') plain_same
  exact ⟨wn_same h h', wn_same h h', e, e⟩
theorem Orb.refl {n : Int} (h : 1 ≤ n) (h' : n ≤ 4) {w : List Nat} (hr : RowOk n [w]) : Orb n w w :=
  ⟨_, _, Alph.same h h', List.singleton_inj.mp (rowT_same h h' hr)⟩
theorem Orb.symm {n : Int} (h : 1 ≤ n) (h' : n ≤ 4) {w v : List Nat} (hr : RowOk n [w]) (o : Orb n w v) : Orb n v w := by
  obtain ⟨T, T', g, rfl⟩ := o
  exact ⟨T', T, g.symm, List.singleton_inj.mp (rowT_there_back h h' g hr)⟩
theorem Orb.trans {n : Int} (h : 1 ≤ n) (h' : n ≤ 4) {w v u : List Nat} (o : Orb n w v) (p : Orb n v u) : Orb n w u := by
  obtain ⟨T, T', g, rfl⟩ := o
  obtain ⟨U, U', k, rfl⟩ := p
  have e : rowT U (rowT T [w]) = rowT (thn T U) [w] := rowT_thn (wn_tl g.w) (wn_tl k.w)
  exact ⟨_, _, g.comp h h' k, (List.singleton_inj.mp e).symm⟩
theorem Orb.row {n : Int} (h : 1 ≤ n) (h' : n ≤ 4) {w v : List Nat} (o : Orb n w v) : RowOk n [v] := by
  obtain ⟨T, T', g, rfl⟩ := o
  exact rowT_ok h h' g.w [w]
theorem Orb.of {n : Int} {T T' w : List (List Nat)} (g : Alph n T T') (x : List Nat) : Orb n x (ring (rt T x)) := ⟨T, T', g, rfl⟩
theorem Orb.chg {n : Int} (h : 1 ≤ n) (h' : n ≤ 4) {b : Nat} {sd : List Nat} (g : Chg n b sd) (w : List Nat) : Orb n w (ring (rt (chg n b sd) w)) := ⟨_, _, Alph.step h h' (s := .chg b sd) g, rfl⟩
theorem Orb.exc {n : Int} (h : 1 ≤ n) (h' : n ≤ 4) {e : List Nat} (g : Exg n e) (w : List Nat) : Orb n w (ring (rt (ones e) w)) := ⟨_, _, Alph.step h h' (s := .exc e) g, rfl⟩
theorem Orb.road {n : Int} (h : 1 ≤ n) (h' : n ≤ 4) {ss : List Stp} (hs : ∀ s ∈ ss, StepOk n s) {w v : List Nat} (hr : RowOk n [w]) (e : lastR n [w] ss = [v]) : Orb n w v := by
  rw [← lastR_road h h' hr hs] at e
  exact ⟨_, _, Alph.road h h' hs, List.singleton_inj.mp e⟩
/-- as short as any ring of its orbit -/
def Sho (n : Int) (w : List Nat) : Prop := ∀ v, Orb n w v → w.length ≤ v.length
theorem Sho.of {n : Int} (h : 1 ≤ n) (h' : n ≤ 4) {w : List Nat} (hr : RowOk n [w]) (hm : mkS n [w] = none) : Sho n w := fun v o => by
  obtain ⟨T, T', g, rfl⟩ := o
  have := shortest h h' g hr (minR_of h h' hr hm)
  rw [rowT1, row1, row1] at this
  exact this
theorem Sho.mk {n : Int} (h : 1 ≤ n) (h' : n ≤ 4) {w : List Nat} (hr : RowOk n [w]) (s : Sho n w) : mkS n [w] = none := by
  cases e : mkS n [w] with
  | none => rfl
  | some x =>
    obtain ⟨b, sd, f⟩ := x
    obtain ⟨gc, _, f0, _, _, fl⟩ := mkS_some h h' hr e
    have := s _ (Orb.chg h h' gc w)
    rw [rowT1, row1, row1] at fl
    omega
theorem Sho.len {n : Int} (h : 1 ≤ n) (h' : n ≤ 4) {w v : List Nat} (hr : RowOk n [w]) (s : Sho n w) (t : Sho n v) (o : Orb n w v) : v.length = w.length := by
  have a := s v o
  have b := t w (o.symm h h' hr)
  omega
theorem short_orb {n : Int} (h : 1 ≤ n) (h' : n ≤ 4) {w s : List Nat} (hr : RowOk n [w]) (e : (short n [w]).2 = [s]) : Orb n w s ∧ Sho n s ∧ RowOk n [s] := by
  have so := short_ok h h' hr
  have sa := short_at h h' hr
  rw [e] at so sa
  exact ⟨Orb.road h h' (short_chg h h' hr) hr sa.2, Sho.of h h' so.1 so.2.1, so.1⟩
theorem lw_row {n : Int} {w : List Nat} (hr : RowOk n [w]) : Lw w := fun c hc => Ln_lw n c ((hr w (by simp)).1 c hc)
theorem stand_counts {n : Int} (h : 1 ≤ n) (h' : n ≤ 4) (w : List Nat) : (lnIn n w).length = 2 * ((lows n).map (rowCount [w])).countP fun c => decide (0 < c) := by
  have key : ∀ l ∈ [97, 98, 99, 100], (decide (0 < rowCount [w] l) = (decide (l ∈ w) || decide (inv l ∈ w))) := fun l hl => by
    have e : rowCount [w] l = w.count l + w.count (inv l) := by simp [rowCount]
    rw [e]
    by_cases z1 : l ∈ w
    · have := List.count_pos_iff.mpr z1
      rw [decide_eq_true z1, decide_eq_true (by omega)]; rfl
    · rw [decide_eq_false z1, List.count_eq_zero.mpr z1]
      by_cases z2 : inv l ∈ w
      · have := List.count_pos_iff.mpr z2
        rw [decide_eq_true z2, decide_eq_true (by omega)]; rfl
      · rw [decide_eq_false z2, List.count_eq_zero.mpr z2]; rfl
  have k1 := key 97 (by simp)
  have k2 := key 98 (by simp)
  have k3 := key 99 (by simp)
  have k4 := key 100 (by simp)
  have i1 : inv 97 = 65 := rfl
  have i2 : inv 98 = 66 := rfl
  have i3 : inv 99 = 67 := rfl
  have i4 : inv 100 = 68 := rfl
  have j1 : inv 65 = 97 := rfl
  have j2 : inv 66 = 98 := rfl
  have j3 : inv 67 = 99 := rfl
  have j4 : inv 68 = 100 := rfl
  rw [i1] at k1
  rw [i2] at k2
  rw [i3] at k3
  rw [i4] at k4
  have c1 := Bool.or_comm (decide (65 ∈ w)) (decide (97 ∈ w))
  have c2 := Bool.or_comm (decide (66 ∈ w)) (decide (98 ∈ w))
  have c3 := Bool.or_comm (decide (67 ∈ w)) (decide (99 ∈ w))
  have c4 := Bool.or_comm (decide (68 ∈ w)) (decide (100 ∈ w))
  rw [List.countP_map]
  unfold lnIn
  rcases four h h' with rfl | rfl | rfl | rfl <;> simp only [Ln, lets, lows, Int.toNat_one, Int.reduceToNat, Nat.reduceMul, List.take_succ_cons, List.take_zero, List.filter_cons, List.filter_nil, List.countP_cons, List.countP_nil, Function.comp, i1, i2, i3, i4, j1, j2, j3, j4, k1, k2, k3, k4, c1, c2, c3, c4, Nat.mul_one]
  all_goals (
    generalize (decide (97 ∈ w) || decide (65 ∈ w)) = b1
    try generalize (decide (98 ∈ w) || decide (66 ∈ w)) = b2
    try generalize (decide (99 ∈ w) || decide (67 ∈ w)) = b3
    try generalize (decide (100 ∈ w) || decide (68 ∈ w)) = b4
    clear key k1 k2 k3 k4 c1 c2 c3 c4
    revert b1
    try revert b2
    try revert b3
    try revert b4
    decide)
theorem stand_orb {n : Int} (h : 1 ≤ n) (h' : n ≤ 4) {w v : List Nat} (hw : RowOk n [w]) (sw : Sho n w) (sv : Sho n v) (o : Orb n w v) : (lnIn n v).length = (lnIn n w).length := by
  have hv := o.row h h'
  have m1 := minR_of h h' hw (sw.mk h h' hw)
  have m2 := minR_of h h' hv (sv.mk h h' hv)
  obtain ⟨T, T', g, rfl⟩ := o
  rw [stand_counts h h', stand_counts h h']
  have := counts_perm h h' g hw m1 m2 0
  rw [this]; rfl
end Z
namespace Z
open PySem PySem.Spec L2
theorem Ln_pre {m n : Int} (h : 1 ≤ m) (hmn : m ≤ n) (h' : n ≤ 4) : (Ln m).Sublist (Ln n) := by
  rcases four h (by omega) with rfl | rfl | rfl | rfl <;> rcases four (by omega : 1 ≤ n) h' with rfl | rfl | rfl | rfl <;> first | exact absurd hmn (by decide) | decide
theorem Chg.mono {m n : Int} (h : 1 ≤ m) (hmn : m ≤ n) (h' : n ≤ 4) {b : Nat} {sd : List Nat} (g : Chg m b sd) : Chg n b sd := ⟨Ln_mono h hmn h' g.bn, g.sub.trans (Ln_pre h hmn h'), g.own, g.con⟩
end Z
namespace Z
open PySem PySem.Spec L2 PyProof.Rows
end Z
namespace Z
open PySem PySem.Spec L2
theorem isRot_back {m s : List Nat} (r : IsRot m s) : IsRot (back m) (back s) := by
  obtain ⟨u, v, rfl, rfl⟩ := r
  exact ⟨back v, back u, back_app u v, back_app v u⟩
theorem ring_back {w : List Nat} (hw : Lw w) (hp : Plain w) : ring (back (ring w)) = ring (back w) := by
  obtain ⟨p, e, hc, hl⟩ := wound _ rfl hw hp
  have hm := lw_mid hw hp
  have hcb := cr_back hm hc
  have e1 : back w = p ++ back (mid w) ++ back p := by
    conv => lhs; rw [e]
    rw [back_app, back_app, back_back hl, List.append_assoc]
  have e2 : ring (back w) = ring (back (mid w)) := by
    have h1 := ring_conj hl (lw_back hm)
    rw [← e1, lay_plain (plain_back hw hp), lay_plain hcb.plain] at h1
    exact h1
  rw [e2]
  have r : IsRot (mid w) (ring w) := (rg_ok _).1
  exact ring_rot (lw_back hm) hcb (isRot_back r)
section
variable {n : Int} (h : 1 ≤ n) (h' : n ≤ 4)
include h h'
theorem row_back {w : List Nat} (hr : RowOk n [w]) : RowOk n [ring (back w)] := by
  obtain ⟨q1, q2, q3⟩ := hr w (by simp)
  exact RowOk.one (Ln_back h h' q1) (plain_back (lw_row hr) q2.plain)
theorem back2 {w : List Nat} (hr : RowOk n [w]) : ring (back (ring (back w))) = w := by
  obtain ⟨q1, q2, q3⟩ := hr w (by simp)
  have hl := lw_row hr
  rw [ring_back (lw_back hl) (plain_back hl q2.plain), back_back hl, q3]
theorem back_rlen {w : List Nat} (hr : RowOk n [w]) : (ring (back w)).length = w.length := by
  obtain ⟨q1, q2, q3⟩ := hr w (by simp)
  rw [ring_cr (cr_back (lw_row hr) q2), rg_len]; simp [back]
theorem Orb.back {w v : List Nat} (hr : RowOk n [w]) (o : Orb n w v) : Orb n (ring (back w)) (ring (back v)) := by
  obtain ⟨T, T', g, rfl⟩ := o
  obtain ⟨q1, q2, q3⟩ := hr w (by simp)
  have hT := wn_tl g.w
  have hl := lw_row hr
  refine ⟨T, T', g, ?_⟩
  rw [ring_back (lw_rt hT w) (plain_lay _), ← rt_back hT hl]
  exact (ring_rt hT (lw_back hl) (plain_back hl q2.plain)).symm
theorem Sho.back {w : List Nat} (hr : RowOk n [w]) (s : Sho n w) : Sho n (ring (back w)) := fun v o => by
  have hv := o.row h h'
  have p := Orb.back h h' (row_back h h' hr) o
  rw [back2 h h' hr] at p
  have := s _ p
  rw [back_rlen h h' hv] at this
  rw [back_rlen h h' hr]; exact this
end
end Z
namespace Z
open PySem PySem.Spec L2
def pw (m : Nat) (u : List Nat) : List Nat := (List.replicate m u).flatten
def pk (r : List Nat) (k : Nat) : Bool := decide (r.length % k = 0) && decide (pw (r.length / k) (r.take k) = r)
def rep (r : List Nat) : List Nat := ((((List.range r.length).map (· + 1)).filter (pk r)).take 1).map fun k => r.length / k
end Z
namespace Z
open PySem PySem.Spec L2
end Z
namespace Z
open PySem PySem.Spec L2 PyProof
end Z
namespace Z
open PySem PySem.Spec L2
/-- whether a word is a letter of an alphabet, in the program's words -/
noncomputable def asK (n : Int) (w : List Nat) : List Nat := if ((short n [ring w]).2.headD []).length = 1 then [108, 101, 116, 116, 101, 114] else [110, 111, 110, 101]
section
variable {n : Int} (h : 1 ≤ n) (h' : n ≤ 4)
include h h'
theorem stand_key {l : Nat} (hl : l ∈ lows n) (w : List Nat) : decide (0 < rowCount [w] l) = (decide (l ∈ w) || decide (inv l ∈ w)) := by
  have e : rowCount [w] l = w.count l + w.count (inv l) := by simp [rowCount]
  rw [e]
  by_cases z1 : l ∈ w
  · have := List.count_pos_iff.mpr z1
    rw [decide_eq_true z1, decide_eq_true (by omega)]; rfl
  · rw [decide_eq_false z1, List.count_eq_zero.mpr z1]
    by_cases z2 : inv l ∈ w
    · have := List.count_pos_iff.mpr z2
      rw [decide_eq_true z2, decide_eq_true (by omega)]; rfl
    · rw [decide_eq_false z2, List.count_eq_zero.mpr z2]; rfl
theorem lowsIn_counts (w : List Nat) : (lowsIn n w).length = ((lows n).map (rowCount [w])).countP fun c => decide (0 < c) := by
  rw [List.countP_map, List.countP_eq_length_filter]
  unfold lowsIn
  refine congrArg List.length (List.filter_congr fun c hc => ?_)
  exact (stand_key h h' hc w).symm
theorem lowsIn_half (w : List Nat) : (lnIn n w).length = 2 * (lowsIn n w).length := by
  rw [lowsIn_counts h h', stand_counts h h']
theorem shorts_same {w v s u : List Nat} (hw : RowOk n [w]) (hv : RowOk n [v]) (o : Orb n w v) (es : (short n [w]).2 = [s]) (eu : (short n [v]).2 = [u]) : u.length = s.length ∧ (lowsIn n u).length = (lowsIn n s).length := by
  obtain ⟨o1, s1, r1⟩ := short_orb h h' hw es
  obtain ⟨o2, s2, r2⟩ := short_orb h h' hv eu
  have p := ((o1.symm h h' hw).trans h h' o).trans h h' o2
  refine ⟨s1.len h h' r1 s2 p, ?_⟩
  have a := stand_orb h h' r1 s1 s2 p
  rw [lowsIn_half h h', lowsIn_half h h'] at a
  omega
theorem lowsIn_back {s : List Nat} (hr : RowOk n [s]) : lowsIn n (ring (back s)) = lowsIn n s := by
  obtain ⟨q1, q2, q3⟩ := hr s (by simp)
  have hl := lw_row hr
  have hrot : IsRot (back s) (ring (back s)) := by
    rw [ring_cr (cr_back hl q2)]
    exact (rg_ok _).1
  have hm : ∀ c, c ∈ ring (back s) ↔ c ∈ back s := hrot.mem
  have hb : ∀ c, c ∈ lets → (c ∈ back s ↔ inv c ∈ s) := fun c hc => by
    unfold back
    rw [List.mem_map]
    constructor
    · rintro ⟨x, hx, rfl⟩
      have hx := List.mem_reverse.mp hx
      rw [inv_inv (hl x hx)]; exact hx
    · intro z
      exact ⟨inv c, List.mem_reverse.mpr z, inv_inv hc⟩
  unfold lowsIn
  refine List.filter_congr fun c hc => ?_
  have hcl := Ln_lw n c (lows_ln h h' hc)
  have e1 : decide (c ∈ ring (back s)) = decide (inv c ∈ s) := by
    rw [decide_eq_decide, hm, hb c hcl]
  have e2 : decide (inv c ∈ ring (back s)) = decide (c ∈ s) := by
    rw [decide_eq_decide, hm, hb _ (inv_mem hcl), inv_inv hcl]
  rw [e1, e2, Bool.or_comm]
theorem short_back {w s u : List Nat} (hw : RowOk n [w]) (es : (short n [w]).2 = [s]) (eu : (short n [ring (back w)]).2 = [u]) : u.length = s.length ∧ (lowsIn n u).length = (lowsIn n s).length := by
  obtain ⟨o1, s1, r1⟩ := short_orb h h' hw es
  have hb := row_back h h' hw
  obtain ⟨o2, s2, r2⟩ := short_orb h h' hb eu
  have ob := Orb.back h h' hw o1
  have sb := Sho.back h h' r1 s1
  have rb := row_back h h' r1
  have p := (ob.symm h h' hb).trans h h' o2
  have a := sb.len h h' rb s2 p
  have b := stand_orb h h' rb sb s2 p
  rw [back_rlen h h' r1] at a
  rw [lowsIn_half h h', lowsIn_half h h', lowsIn_back h h' r1] at b
  exact ⟨a, by omega⟩
/-- as many letters as it needs stand in a ring -/
theorem short_few {w s : List Nat} (hw : RowOk n [w]) (es : (short n [w]).2 = [s]) : (lowsIn n s).length ≤ (lowsIn n w).length := by
  obtain ⟨o1, s1, r1⟩ := short_orb h h' hw es
  obtain ⟨T, T', g, e⟩ := o1.symm h h' hw
  rw [lowsIn_counts h h', lowsIn_counts h h']
  have := dom h h' g r1 (minR_of h h' r1 (s1.mk h h' r1)) 0
  rw [rowT1, e] at this
  exact this
theorem lowsIn_dd {w : List Nat} (hw : ∀ c ∈ w, c ∈ Ln n) : (lowsIn n w).length ≤ (dd (w.map fun c => 97 + li c)).length := by
  refine nodup_len ((lowsIn_sub n w).nodup (lows_nodup n)) fun x hx => ?_
  rw [lowsIn_mem] at hx
  rw [dd_mem, List.mem_map]
  obtain ⟨h1, h2⟩ := hx
  have key : 97 + li x = x ∧ 97 + li (inv x) = x := by
    rcases mem_low h1 with rfl | rfl | rfl | rfl <;> decide
  rcases h2 with z | z
  · exact ⟨x, z, key.1⟩
  · exact ⟨_, z, key.2⟩
/-- what two words have in common -/
def Rel (n : Int) (w v : List Nat) : Prop := (∀ c ∈ v, c ∈ Ln n) ∧ Plain v ∧ (Orb n (ring w) (ring v) ∨ ring v = ring (back (ring w)))
omit h h' in
theorem asK_of {w s : List Nat} (es : (short n [ring w]).2 = [s]) : asK n w = if s.length = 1 then [108, 101, 116, 116, 101, 114] else [110, 111, 110, 101] := by unfold asK; rw [es]; rfl
omit h h' in
theorem needK_of {w s : List Nat} (es : (short n [ring w]).2 = [s]) : needK n w = (lowsIn n s).length := by unfold needK; rw [es]; rfl
theorem Rel.same {w v : List Nat} (hw : ∀ c ∈ w, c ∈ Ln n) (hp : Plain w) (r : Rel n w v) : asK n v = asK n w ∧ needK n v = needK n w := by
  obtain ⟨hv, hpv, o⟩ := r
  have rw' := ring_row hw hp
  have rv := ring_row hv hpv
  obtain ⟨s, es⟩ := short1 h h' rw'
  obtain ⟨u, eu⟩ := short1 h h' rv
  have k : u.length = s.length ∧ (lowsIn n u).length = (lowsIn n s).length := by
    rcases o with o | e
    · exact shorts_same h h' rw' rv o es eu
    · exact short_back h h' rw' es (by rw [← e]; exact eu)
  rw [asK_of es, asK_of eu, needK_of es, needK_of eu, k.1, k.2]
  exact ⟨rfl, rfl⟩
theorem Rel.few {w v : List Nat} (hw : ∀ c ∈ w, c ∈ Ln n) (hp : Plain w) (r : Rel n w v) : needK n w ≤ (dd ((ring v).map fun c => 97 + li c)).length := by
  have e := (r.same h h' hw hp).2
  obtain ⟨hv, hpv, o⟩ := r
  have rv := ring_row hv hpv
  obtain ⟨u, eu⟩ := short1 h h' rv
  rw [← e, needK_of eu]
  exact Nat.le_trans (short_few h h' rv eu) (lowsIn_dd h h' (rv (ring v) (by simp)).1)
theorem Rel.refl {w : List Nat} (hw : ∀ c ∈ w, c ∈ Ln n) (hp : Plain w) : Rel n w w := ⟨hw, hp, .inl (Orb.refl h h' (ring_row hw hp))⟩
theorem Rel.back {w : List Nat} (hw : ∀ c ∈ w, c ∈ Ln n) (hp : Plain w) : Rel n w (back w) := by
  have hl : Lw w := fun c hc => Ln_lw n c (hw c hc)
  exact ⟨Ln_back h h' hw, plain_back hl hp, .inr (ring_back hl hp).symm⟩
theorem Rel.ring {w : List Nat} (hw : ∀ c ∈ w, c ∈ Ln n) (hp : Plain w) : Rel n w (ring w) := by
  have hr := ring_row hw hp
  have hl : Lw w := fun c hc => Ln_lw n c (hw c hc)
  refine ⟨(hr (Z.ring w) (by simp)).1, (hr (Z.ring w) (by simp)).2.1.plain, .inl ?_⟩
  rw [ring_ring hl hp]
  exact Orb.refl h h' hr
end
end Z
namespace Z
open PySem PySem.Spec L2 PyProof.Rows
end Z
namespace Z
open PySem PySem.Spec L2 PyProof.Rows
end Z
namespace L2
open PySem PySem.Spec PySem.W PySem.Calls PyProof.Rows
end L2
namespace Z
open PySem PySem.Spec L2
end Z
namespace Z
open PySem PySem.Spec L2
def Adj (P : List LP) (x y : Nat) : Prop := (x, y) ∈ P ∨ (y, x) ∈ P
inductive Tied (P : List LP) (a : Nat) : Nat → Prop
  | root : Tied P a a
  | step {x y : Nat} : Tied P a x → Adj P x y → Tied P a y
abbrev PT := List (List Nat × List Nat)
def pget (T : PT) (l : List Nat) : List Nat := ((T.find? fun e => decide (e.1 = l)).map (·.2)).getD []
def pput (T : PT) (l v : List Nat) : PT := if (T.any fun e => decide (e.1 = l)) = true then T.map (fun e => if e.1 = l then (e.1, v) else e) else T ++ [(l, v)]
end Z
namespace Z
open PySem PySem.Spec L2
end Z
namespace Z
open PySem PySem.Spec L2
end Z
namespace Z
open PySem PySem.Spec L2
end Z
namespace Z
end Z
namespace Z
open PySem PySem.Spec L2
structure Sc (m : Nat) (rs rs' : List (List Nat)) : Prop where
  tie : ∀ P : LP → Bool, (rs'.flatMap tps).countP P = m * (rs.flatMap tps).countP P
  cnt : ∀ b, rowCount rs' b = m * rowCount rs b
section
variable {m : Nat} {rs rs' : List (List Nat)}
theorem Sc.asum (s : Sc m rs rs') (P : LP → Bool) : asum P (ties rs') = m * Z.asum P (ties rs) := by
  have e : ∀ r : List (List Nat), Z.asum P (ties r) = ((r.flatMap tps).countP P : Nat) := fun r => (tally_ok _).2.2.1 P
  rw [e, e, s.tie]; push_cast; rfl
theorem Sc.least (hm : 1 ≤ m) (s : Sc m rs rs') {L : List Nat} {a b : Nat} {sd : List Nat} : Least L (ties rs') a b sd ↔ Least L (ties rs) a b sd := by
  have hm' : (0 : Int) < m := by omega
  constructor
  · intro k
    refine ⟨k.own, k.con, fun sd' h1 h2 => ?_, fun sd' h1 h2 e => k.few sd' h1 h2 (by rw [s.asum, s.asum, e])⟩
    have := k.least sd' h1 h2
    rw [s.asum, s.asum] at this
    exact Int.le_of_mul_le_mul_left this hm'
  · intro k
    refine ⟨k.own, k.con, fun sd' h1 h2 => ?_, fun sd' h1 h2 e => k.few sd' h1 h2 ?_⟩
    · rw [s.asum, s.asum]
      exact Int.mul_le_mul_of_nonneg_left (k.least sd' h1 h2) (by omega)
    · rw [s.asum, s.asum] at e
      exact Int.eq_of_mul_eq_mul_left (by omega) e
end
end Z
namespace Z
open PySem PySem.Spec L2
/-- a ring so often -/
def pr (m : Nat) (w : List Nat) : List Nat := ring (pw (m + 1) w)
end Z
namespace Z
open PySem PySem.Spec L2
/-- what is kept of the numbers -/
def kept (k : Nat) (v : List Nat) : List Nat := (v.filter fun x => decide (x % k = 0)).map (· / k)
end Z
namespace Z
open PySem PySem.Spec L2
end Z
namespace Z
open PySem PySem.Spec L2
def keysP (rs : List (List Nat)) : List LP := (ties rs).map (·.1)
theorem Adj.symm {P : List LP} {x y : Nat} (a : Adj P x y) : Adj P y x := Or.symm a
theorem Tied.trans {P : List LP} {a b c : Nat} (x : Tied P a b) (y : Tied P b c) : Tied P a c := by
  induction y with
  | root => exact x
  | step _ q ih => exact .step ih q
theorem Tied.symm {P : List LP} {a c : Nat} (x : Tied P a c) : Tied P c a := by
  induction x with
  | root => exact .root
  | step _ q ih => exact Tied.trans (.step .root q.symm) ih
open Classical in
noncomputable def comp (n : Int) (rs : List (List Nat)) (a : Nat) : List Nat := (Ln n).filter fun c => decide (Tied (keysP rs) a c)
end Z
namespace Z
open PySem PySem.Spec L2
/-- parts put together, two ways at once -/
def putK (T : PT) (l : List Nat) (i : Nat) : PT := pput T l (pget T l ++ [i])
end Z
namespace L2
open Lean Elab Tactic Meta PySem PySem.W PySem.Calls PyProof.Rows PyProof.V PySem.Spec
end L2
namespace Z
open PySem PySem.Spec L2
end Z
namespace Z
open PySem PySem.Spec L2
/-- a table: no key twice, numbers from 1 on -/
structure Tb (T : List (LP × Int)) : Prop where
  nk : Nk T
  ps : ∀ e ∈ T, 1 ≤ e.2
theorem Tb.get_of {T : List (LP × Int)} (h : Tb T) {p : LP} {v : Int} (e : (aget T p).getD 0 = v) (hv : 1 ≤ v) : aget T p = some v := by
  cases q : aget T p with
  | none => rw [q] at e; simp at e; omega
  | some x => rw [q] at e; simpa using e
theorem Tb.mem_of {T : List (LP × Int)} {p : LP} {v : Int} (e : aget T p = some v) : p ∈ T.map (·.1) := by
  unfold aget at e
  cases q : T.find? fun e => decide (e.1 = p) with
  | none => rw [q] at e; cases e
  | some x =>
    exact List.mem_map.mpr ⟨x, List.mem_of_find?_eq_some q, of_decide_eq_true (List.find?_some (p := fun e : LP × Int => decide (e.1 = p)) q)⟩
theorem Tb.sub {T U : List (LP × Int)} (hT : Tb T) (hU : Tb U) (h : ∀ p, (aget T p).getD 0 = (aget U p).getD 0) : ∀ p ∈ T.map (·.1), p ∈ U.map (·.1) := fun p hp => by
  obtain ⟨e, he, rfl⟩ := List.mem_map.mp hp
  have h1 := aget_some hT.nk he
  have h2 := h e.1
  rw [h1] at h2
  exact Tb.mem_of (hU.get_of h2.symm (hT.ps e he))
def addT (T : List (LP × Int)) (U : List (LP × Int)) : List (LP × Int) := U.foldl (fun T e => aput T e.1 ((aget T e.1).getD 0 + e.2)) T
end Z
namespace Z
open PySem PySem.Spec L2
/-- v: a tuple of ds, its k-th a new list which nothing else holds -/
def NtOk (K : Frag) (G : Gh) (σ : St) (F H : Hp) (ρ : Ev) (k : Nat) (ds : List D) (v : V) : Prop :=
  ∃ t vs b xs ws, v = .ref t ∧ H t = some (.tup vs) ∧ vs[k]? = some (.ref b) ∧ ds[k]? = some (.lst xs) ∧ F b = none ∧ H b = some (.lst ws) ∧ Rps K F xs ws ∧ ds.length = vs.length ∧
    (∀ (j : Nat) (d : D) (w : V), j ≠ k → ds[j]? = some d → vs[j]? = some w → Rp K F d w) ∧ (G.fresh b ∧ ¬ G.bar b) ∧ ∀ i, ¬ OwnAt ρ σ i b
inductive RN where
  | ok (k : Nat) (ds : List D) (o : Ev) | bad
abbrev FnN := Ev → RN
abbrev MN := Ev → RN
def PostN (K : Frag) (G : Gh) (F : Hp) (r : RN) (Q : VK) : Prop := match r with
  | .ok k ds o => ∀ v σ' F' H', Le F F' → Rep K G F' H' o σ' → NtOk K G σ' F' H' o k ds v → Q v H'
  | .bad => False
theorem PostN.le {K : Frag} {G : Gh} {F F' : Hp} {r : RN} {Q : VK} (l : Le F F') (h : PostN K G F r Q) : PostN K G F' r Q := by
  cases r with
  | ok k ds o => exact fun v σ' F2 H' l2 => h v σ' F2 H' (l.trans l2)
  | bad => exact h
def MN.seq (m : MS) (n : MN) : MN := fun ρ => match m ρ with
  | .nx ρ' => n ρ'
  | _ => .bad
def M.one (m : M Va) : M (List Va) := m.bind fun a => fun ρ => .ok [a] ρ
def shAll : List Va → Option (List D)
  | [] => some []
  | .sh d :: l => (shAll l).map (d :: ·)
  | _ :: _ => none
def MN.ret (k : Nat) (ms : M (List Va)) : MN := fun ρ => match ms ρ with
  | .ok as ρ1 => match shAll (as.set k (.sh .non)) with
    | some ds => if ds.length ≤ big then (match as[k]? with
      | some (.nw (.lst xs)) => .ok k (ds.set k (.lst xs)) ρ1
      | some (.at i) => (match ρ1[i]? with
        | some (.ow false false (.lst xs)) => .ok k (ds.set k (.lst xs)) (ρ1.set i .no)
        | _ => .bad)
      | _ => .bad) else .bad
    | none => .bad
  | _ => .bad
def FnN.of (N : Nat) (m : MN) : FnN := fun ins => match m (ins ++ List.replicate (N - ins.length) .no) with
  | .ok k ds ρ => .ok k ds (ρ.take ins.length)
  | .bad => .bad
section
variable {X : Cx} {W : WX} {K : Frag} {G : Gh} {F F' H H' : Hp} {σ : St} {ρ : Ev} {pos : Pos}
theorem NtOk.take {k : Nat} {ds : List D} {v : V} {n : Nat} (h : NtOk K G σ F H ρ k ds v) : NtOk K G (σ.take n) F H (ρ.take n) k ds v := by
  obtain ⟨t, vs, b, xs, ws, h1, h2, h3, h4, h5, h6, h7, h8, h9, h10, h11⟩ := h
  exact ⟨t, vs, b, xs, ws, h1, h2, h3, h4, h5, h6, h7, h8, h9, h10, fun i x => h11 i (own_take x)⟩
end
section
variable {X : Cx} {W : WX} {K : Frag} {G : Gh} {F F' H H' : Hp} {σ : St} {ρ : Ev} {pos : Pos}
structure Win (K : Frag) (G : Gh) (F1 F H : Hp) (ρ : Ev) (σ : St) (i k : Nat) (I : List Nat) (ds : List D) (t : Addr) (vs : List V) (b : Addr) (xs : List D) (ws : List V) : Prop where
  r : Rep K G F H ρ σ
  le : Le F1 F
  fr : Le G.F F1
  s1 : ∀ (j : Nat) (p : Bool) (d : D) (ov : Option V), j ≠ i → j ∉ I → ρ[j]? = some (.sh p d) → σ[j]? = some ov → (∃ v, ov = some v ∧ Rp K F1 d v) ∧ (p = true → some ov = G.σ[j]?)
  no : ∀ (j : Nat) (p l : Bool) (d : D), ρ[j]? ≠ some (.ow p l d)
  si : σ[i]? = some (some (.ref t))
  sI : ∀ (j : Nat), j ∈ I → σ[j]? = some (some (.ref b))
  ri : ρ[i]? = some (.sh false (.tup ds))
  ft : F t = some (.tup vs)
  fb : F b = some (.lst ws)
  eb : vs[k]? = some (.ref b)
  ek : ds[k]? = some (.lst xs)
  nb : F1 b = none
  rx : Rps K F1 xs ws
  ln : ds.length = vs.length
  ot : ∀ (j : Nat) (d : D) (w : V), j ≠ k → ds[j]? = some d → vs[j]? = some w → Rp K F1 d w
  gb : G.fresh b ∧ ¬ G.bar b
theorem rps_of : ∀ {ds : List D} {vs : List V}, ds.length = vs.length → (∀ (j : Nat) (d : D) (w : V), ds[j]? = some d → vs[j]? = some w → Rp K F d w) → Rps K F ds vs
  | [], [], _, _ => Rps.nil
  | [], _ :: _, h, _ => by simp at h
  | _ :: _, [], h, _ => by simp at h
  | d :: ds, v :: vs, h, g => Rps.cons (g 0 d v rfl rfl) (rps_of (by simpa using h) fun j d' w e1 e2 => g (j + 1) d' w (by simpa using e1) (by simpa using e2))
theorem Rep.go_keepF {F1 : Hp} (r : Rep K G F H ρ σ) (le : Le F1 F) (fr : Le G.F F1) {F2 : Hp} (l2 : Le F1 F2) (s2 : Sub F2 F) : Go G.F G.H F2 H G.own where
  fr := fr.trans l2
  keep := fun c o h n w t => by
    obtain ⟨h1, h2⟩ := r.go.keep c o h n w t
    refine ⟨h1, ?_⟩
    cases q : F2 c with
    | none => rfl
    | some z => rw [s2 c z q] at h2; cases h2
  dom := r.go.dom
/-- F without what came behind F1, but for t -/
def resF (F1 F : Hp) (t : Addr) : Hp := fun a => match F1 a with
  | some _ => F a
  | none => if a = t then F a else none
theorem resF_le {F1 : Hp} {t : Addr} (le : Le F1 F) : Le F1 (resF F1 F t) := fun a o e => by
  unfold resF; rw [e]; exact le a o e
theorem resF_sub {F1 : Hp} {t : Addr} : Sub (resF F1 F t) F := fun a o e => by
  unfold resF at e
  split at e
  · exact e
  · split at e
    · exact e
    · cases e
/-- the list is out of the shared part -/
theorem Win.back {F1 : Hp} {i k : Nat} {I : List Nat} {ds : List D} {t : Addr} {vs : List V} {b : Addr} {xs : List D} {ws : List V} (w : Win K G F1 F H ρ σ i k I ds t vs b xs ws) {ρ' : Ev} (hl : ρ'.length = ρ.length)
    (hp : ∀ (j : Nat) (s : Sl), ρ'[j]? = some s → s = .no ∨ (j ≠ i ∧ j ∉ I ∧ ρ[j]? = some s)) : ∃ F2, Le F1 F2 ∧ Rep K G F2 H ρ' σ ∧ F2 b = none ∧ F2 t = some (.tup vs) ∧ H b = some (.lst ws) ∧ H t = some (.tup vs) ∧ ∀ j a, ¬ OwnAt ρ' σ j a := by
  have ht := w.r.sub _ _ w.ft
  have hb := w.r.sub _ _ w.fb
  have tb : b ≠ t := fun z => by subst z; rw [hb] at ht; cases ht
  have noo : ∀ j a, ¬ OwnAt ρ' σ j a := fun j a ⟨p, l, d, e1, e2⟩ => by
    rcases hp j _ e1 with z | ⟨_, _, z⟩
    · cases z
    · exact w.no j p l d z
  refine ⟨resF F1 F t, resF_le w.le, ⟨w.r.gok, fun a o e => w.r.sub a o (resF_sub a o e), by rw [hl]; exact w.r.len, fun j s ov e1 e2 => ?_, fun j _ a o1 _ => absurd o1 (noo j a), w.r.go_keepF w.le w.fr (resF_le w.le) resF_sub, w.r.tab, fun a o e => w.r.ntb a o (resF_sub a o e)⟩, ?_, ?_, hb, ht, noo⟩
  · rcases hp j s e1 with z | ⟨h1, h2, z⟩
    · subst z; trivial
    · cases s with
      | no => trivial
      | sh p d =>
        obtain ⟨⟨v, e, q⟩, g⟩ := w.s1 j p d ov h1 h2 z e2
        exact ⟨⟨v, e, Rp.mono (resF_le w.le).r _ _ q⟩, g⟩
      | ow p l d => exact absurd z (w.no j p l d)
  · unfold resF; rw [w.nb]; show (if b = t then _ else _) = _; rw [if_neg tb]
  · cases q : F1 t with
    | some z => unfold resF; rw [q]; exact w.ft
    | none => unfold resF; rw [q]; show (if t = t then _ else _) = _; rw [if_pos rfl]; exact w.ft
/-- the tuple is whole again -/
theorem Win.tie {F1 : Hp} {i k : Nat} {I : List Nat} {ds : List D} {t : Addr} {vs : List V} {b : Addr} {xs : List D} {ws : List V} (w : Win K G F1 F H ρ σ i k I ds t vs b xs ws) {F2 H2 : Hp} {ρ2 : Ev} {ys : List D} (l : Le F1 F2) (r : Rep K G F2 H2 ρ2 σ) (ht : F2 t = some (.tup vs)) (q : Rp K F2 (.lst ys) (.ref b)) : Rep K G F2 H2 (ρ2.set i (.sh false (.tup (ds.set k (.lst ys))))) σ := by
  refine r.put w.si ⟨⟨_, rfl, ?_⟩, fun z => by cases z⟩ fun _ _ _ _ z => by cases z
  simp only [Rp]
  refine ⟨t, vs, rfl, ht, rps_of (by rw [List.length_set]; exact w.ln) fun j d v e1 e2 => ?_⟩
  by_cases hj : j = k
  · subst hj
    have hk : j < ds.length := (List.getElem?_eq_some_iff.mp w.ek).1
    rw [List.getElem?_set_self hk] at e1
    rw [w.eb] at e2
    cases e1; cases e2
    exact q
  · rw [List.getElem?_set_ne (Ne.symm hj)] at e1
    exact Rp.mono l.r _ _ (w.ot j d v hj e1 e2)
end
structure RN.wp (r : RN) (Q : Nat → List D → Ev → Prop) : Prop where
  run : match r with
    | .ok k ds o => Q k ds o
    | .bad => False
section
variable {ρ : Ev} {Q : Nat → List D → Ev → Prop} {N C B : Ev → Prop} {T : Va → Ev → Prop} {i k a b c : Nat} {mc : M Bool} {ma mw mr : MS} {m : M Va} {ms : M (List Va)}
theorem RN.of_wp {r : RN} (h : r.wp Q) : ∃ k ds o, r = .ok k ds o ∧ Q k ds o := by
  cases r with
  | ok k ds o => exact ⟨k, ds, o, rfl, h.run⟩
  | bad => exact h.run.elim
end
end Z
namespace L2.DX
open PySem PySem.Spec PyProof.Rows
end L2.DX
namespace Z
open PySem PySem.Spec L2
end Z
namespace Z
open PySem PySem.Spec L2
end Z
namespace Z
open PySem PySem.Spec L2
section
variable {X : Cx} {W : WX} {G : Gh} {pos : Pos}
/-- str(n), n from 0 on -/
def opStrI : List D → Option Va
  | [.int i] => if decide (0 ≤ i) && decide (i < 1000000000) then some (.sh (.str (TL.numL i.toNat))) else none
  | _ => none
theorem log2_small {n : Nat} (h : n < 1000000000) : n.log2 < 1920 := by
  by_cases z : n = 0
  · subst z; decide
  · exact Nat.lt_of_lt_of_le ((Nat.log2_lt z).mpr (Nat.lt_of_lt_of_le h (by decide : 1000000000 ≤ 2 ^ 30))) (by decide)
theorem bf_strI : BF X (.type "str") opStrI := ⟨_, call_str_int, fun G F H ρ σ xs ds s Q r vw e k => by
  unfold opStrI at e
  split at e
  · split at e
    · rename_i i z
      cases e
      rw [Bool.and_eq_true, decide_eq_true_eq, decide_eq_true_eq] at z
      obtain ⟨w, rfl, w1⟩ := vwl1 vw
      rw [vw_int w1]
      refine ⟨i, rfl, log2_small (by omega), ?_⟩
      obtain ⟨n, rfl⟩ : ∃ n : Nat, i = n := ⟨i.toNat, by omega⟩
      rw [show (toString ((n : Nat) : Int) : Str) = S (TL.numL n) from SX.num_S n]
      exact k _ F H (Le.refl F) r rv_str
    · cases e
  · cases e⟩
/-- int(text), the text all figures -/
def digs (s : List Nat) : Bool := s.all fun c => decide (48 ≤ c) && decide (c ≤ 57)
def opIntS : List D → Option Va
  | [.str s] => if digs s && decide (s ≠ []) && decide (s.length ≤ 64) then some (.sh (.int (NumText.digitsVal s : Nat))) else none
  | _ => none
theorem bf_intS : BF X (.type "int") opIntS := ⟨_, call_int_str, fun G F H ρ σ xs ds s Q r vw e k => by
  unfold opIntS at e
  split at e
  · split at e
    · rename_i t z
      cases e
      rw [Bool.and_eq_true, Bool.and_eq_true, decide_eq_true_eq, decide_eq_true_eq] at z
      obtain ⟨⟨z1, z2⟩, z3⟩ := z
      obtain ⟨w, rfl, w1⟩ := vwl1 vw
      rw [vw_str w1]
      exact ⟨_, _, rfl, SX.int_S z1 z2 (by omega), by rw [S_len]; omega, k _ F H (Le.refl F) r rv_int⟩
    · cases e
  · cases e⟩
/-- range(i, j, c) -/
def rngC (i c : Int) (n : Nat) : List D := (List.range n).map fun (k : Nat) => .int (i + k * c)
theorem wk_rngC {K : Frag} {F1 : Hp} (lo c : Int) (n : Nat) : Wk K F1 (rngC lo c n) (Itc lo c n) := fun F H le sb i => by
  have le := le.r
  unfold rngC
  refine ⟨fun d e => ?_, fun hl => by show n ≤ i; simpa using hl⟩
  have hi : i < n := by have := (List.getElem?_eq_some_iff.mp e).1; simpa using this
  refine ⟨hi, fun x H' ⟨e1, e2⟩ => .inl ⟨e1, ?_⟩⟩
  subst e2
  rw [List.getElem?_map, List.getElem?_range hi] at e
  cases e
  simp only [Rp]
open Classical in
noncomputable def rngD3 : List D → Option (List D)
  | [.int i, .int j, .int c] => if RgC i j c (Builtin.Range.rangeSize i j c).toNat then some (rngC i c (Builtin.Range.rangeSize i j c).toNat) else none
  | _ => none
theorem im_rng3 {tg a b c : Expr} {p : Pos} {ms : M (List Va)} (hm : X.mg "range" = none) (h : AM X W [a, b, c] ms) (hg : Gl X "range" := by rfl) (hs : starEach [a, b, c] X.env = (false, eval a X.env) :: starEach [b, c] X.env := by rfl) (hpl : (backTo pos (starEach [b, c] X.env)).any (·.1) = false := by rfl) : IM X W tg (.Call (.Name "range" p) [a, b, c] [] pos) (M.args rngD3 ms) := fun G => pi_weak (pi_range3 hg hm (h G) hs hpl) fun σ H Rr ⟨F, ρ, r, p⟩ =>
  ⟨F, ρ, r, Post.bind p fun vs F1 H1 ρ1 as e l r1 q p1 => by
    obtain ⟨F2, ds, b, ρ2, l2, r2, q2, e2, k⟩ := shrs_post r1 q p1
    unfold rngD3 at e2
    split at e2
    · rename_i i j c
      split at e2
      · rename_i z
        cases e2
        obtain ⟨v, vs', rfl, h1, h2⟩ := q2.cases1
        obtain ⟨v2, vs2, rfl, h3, h4⟩ := h2.cases1
        obtain ⟨v3, vs3, rfl, h5, h6⟩ := h4.cases1
        simp only [Rps] at h6; subst h6
        simp only [Rp] at h1 h3 h5; subst h1; subst h3; subst h5
        exact ⟨i, j, c, _, rfl, z, k _ F2 H1 (Le.refl F2) r2 (wk_rngC i c _)⟩
      · cases e2
    · cases e2⟩
/-- range(2, 2 + 3 k, 3) -/
theorem rngD3_ok {k : Nat} (h : k ≤ 100000) : rngD3 [.int 2, .int (2 + 3 * k : Nat), .int 3] = some (rngC 2 3 k) := by
  have hs : Builtin.Range.rangeSize 2 ((2 + 3 * k : Nat) : Int) 3 = (k : Nat) := by
    unfold Builtin.Range.rangeSize
    rw [if_pos (by decide)]
    split <;> omega
  have hsm : Builtin.Range.small 2 ((2 + 3 * k : Nat) : Int) 3 = true := by
    unfold Builtin.Range.small
    rw [hs]
    obtain ⟨j, ej⟩ : ∃ j : Int, ((2 + 3 * k : Nat) : Int) = j := ⟨_, rfl⟩
    obtain ⟨q, eq⟩ : ∃ q : Int, ((k : Nat) : Int) = q := ⟨_, rfl⟩
    rw [ej, eq]
    have h1 : 0 ≤ j ∧ j < 1000000 ∧ 0 ≤ q ∧ q < 1000000 := by omega
    clear hs ej eq
    unfold Builtin.Range.rangeFitsLong
    rw [if_pos (by decide)]
    have d1 : ∀ x : Int, -5 ≤ x → x < 2000000 → (decide (-2 ^ 63 ≤ x) && decide (x < 2 ^ 63)) = true := fun x a b => by
      rw [Bool.and_eq_true]; exact ⟨decide_eq_true (by omega), decide_eq_true (by omega)⟩
    rw [d1 2 (by decide) (by decide), d1 3 (by decide) (by decide), d1 j (by omega) (by omega), d1 q (by omega) (by omega), d1 (j + (3 - 1)) (by omega) (by omega)]
    simp
  have hr : RgC 2 ((2 + 3 * k : Nat) : Int) 3 (Builtin.Range.rangeSize 2 ((2 + 3 * k : Nat) : Int) 3).toNat := ⟨by decide, by decide, hsm, by rw [hs]; omega⟩
  unfold rngD3
  simp only
  rw [if_pos hr, hs]
  rfl
end
end Z
namespace Z
open PySem PySem.Spec L2
def wCh : List Nat := [99, 104, 97, 110, 103, 101]
def wEx : List Nat := [101, 120, 99, 104, 97, 110, 103, 101]
def wFl : List Nat := [102, 108, 111, 119]
/-- the words of a row -/
def chW (b : Nat) (sd : List Nat) : List (List Nat) := wCh :: [b] :: [58] :: sd.map fun c => [c]
def exW (e : List Nat) : List (List Nat) := wEx :: e.map fun c => [c]
def stepW : Stp → List (List Nat)
  | .chg b sd => chW b sd
  | .exc e => exW e
/-- an entry of a flow: two letters, how many -/
abbrev FEnt := Fe
def entD (x : FEnt) : D := .tup [.str [x.1], .str [x.2.1], .int x.2.2]
def entW (x : FEnt) : List (List Nat) := [[x.1], [x.2.1], TL.numL x.2.2.toNat]
def flD (f : List FEnt) : D := .tup (f.map entD)
def flW (f : List FEnt) : List (List Nat) := wFl :: [58] :: f.flatMap entW
def rowX (ws : List (List Nat)) : List Nat := joinD [32] ws
def rowsJ (rows : List (List (List Nat))) : List Nat := joinD [10] (rows.map rowX)
/-- words that may be read back -/
def WdOk (w : List Nat) : Prop := w ≠ [] ∧ ∀ c ∈ w, 32 < c ∧ c < 128
structure RwOk (ws : List (List Nat)) : Prop where
  ne : ws ≠ []
  ok : ∀ w ∈ ws, WdOk w
structure EntOk (n : Int) (x : FEnt) : Prop where
  h1 : x.1 ∈ Ln n
  h2 : x.2.1 ∈ Ln n
  lo : 1 ≤ x.2.2
  hi : x.2.2 ≤ 999999
theorem EntOk.nat {n : Int} {x : FEnt} (h : EntOk n x) : x.2.2.toNat ≤ 999999 := by have := h.hi; omega
theorem wd_let {c : Nat} (h : c ∈ lets) : WdOk [c] := ⟨by simp, fun x hx => by
  rw [List.mem_singleton.mp hx]
  rcases lets_cases h with rfl | rfl | rfl | rfl | rfl | rfl | rfl | rfl <;> decide⟩
theorem wd_ch : WdOk wCh := ⟨by decide, by decide⟩
theorem wd_ex : WdOk wEx := ⟨by decide, by decide⟩
theorem wd_fl : WdOk wFl := ⟨by decide, by decide⟩
theorem wd_col : WdOk [58] := ⟨by decide, by decide⟩
theorem wd_num (m : Nat) : WdOk (TL.numL m) := ⟨TL.numL_ne m, fun c hc => by have := TL.numL_digits m c hc; omega⟩
theorem rw_ch {b : Nat} {sd : List Nat} (hb : b ∈ lets) (hs : ∀ c ∈ sd, c ∈ lets) : RwOk (chW b sd) := ⟨by simp [chW], fun w hw => by
  unfold chW at hw
  rcases List.mem_cons.mp hw with rfl | hw
  · exact wd_ch
  rcases List.mem_cons.mp hw with rfl | hw
  · exact wd_let hb
  rcases List.mem_cons.mp hw with rfl | hw
  · exact wd_col
  obtain ⟨c, hc, rfl⟩ := List.mem_map.mp hw
  exact wd_let (hs c hc)⟩
theorem rw_ex {e : List Nat} (he : ∀ c ∈ e, c ∈ lets) : RwOk (exW e) := ⟨by simp [exW], fun w hw => by
  unfold exW at hw
  rcases List.mem_cons.mp hw with rfl | hw
  · exact wd_ex
  obtain ⟨c, hc, rfl⟩ := List.mem_map.mp hw
  exact wd_let (he c hc)⟩
theorem rw_fl {n : Int} {f : List FEnt} (hf : ∀ x ∈ f, EntOk n x) : RwOk (flW f) := ⟨by simp [flW], fun w hw => by
  unfold flW at hw
  rcases List.mem_cons.mp hw with rfl | hw
  · exact wd_fl
  rcases List.mem_cons.mp hw with rfl | hw
  · exact wd_col
  obtain ⟨x, hx, hw⟩ := List.mem_flatMap.mp hw
  have q := hf x hx
  simp only [entW, List.mem_cons, List.not_mem_nil, or_false] at hw
  rcases hw with rfl | rfl | rfl
  · exact wd_let (Ln_lw n _ q.h1)
  · exact wd_let (Ln_lw n _ q.h2)
  · exact wd_num _⟩
theorem rw_split {ws : List (List Nat)} (h : RwOk ws) : splitD (rowX ws) [32] = ws :=
  split_joinD (by decide) h.ne fun p hp hc => by have := ((h.ok p hp).2 32 hc).1; omega
theorem joinD_mem2 {a : List Nat} : ∀ {ps : List (List Nat)} {c : Nat}, c ∈ joinD a ps → c ∈ a ∨ ∃ p ∈ ps, c ∈ p
  | [], c, h => by simp [joinD] at h
  | [p], c, h => .inr ⟨p, by simp, h⟩
  | p :: q :: r, c, h => by
    rcases List.mem_append.mp h with h | h
    · exact .inr ⟨p, by simp, h⟩
    rcases List.mem_append.mp h with h | h
    · exact .inl h
    rcases joinD_mem2 (ps := q :: r) h with h | ⟨p', hp', h⟩
    · exact .inl h
    · exact .inr ⟨p', List.mem_cons_of_mem _ hp', h⟩
theorem row_signs {ws : List (List Nat)} (h : RwOk ws) : ∀ c ∈ rowX ws, 32 ≤ c ∧ c < 128 := fun c hc => by
  rcases joinD_mem2 hc with z | ⟨p, hp, z⟩
  · rw [List.mem_singleton.mp z]; decide
  · have := (h.ok p hp).2 c z; omega
theorem row_ne {ws : List (List Nat)} (h : RwOk ws) : rowX ws ≠ [] := by
  match ws, h with
  | [], h => exact absurd rfl h.ne
  | [p], h => exact (h.ok p (by simp)).1
  | p :: q :: r, h =>
    have hp := (h.ok p (by simp)).1
    show p ++ ([32] ++ joinD [32] (q :: r)) ≠ []
    simp
theorem rows_split {rows : List (List (List Nat))} (h : ∀ ws ∈ rows, RwOk ws) (hn : rows ≠ []) : splitD (rowsJ rows) [10] = rows.map rowX :=
  split_joinD (by decide) (fun e => hn (List.map_eq_nil_iff.mp e)) fun p hp hc => by
    obtain ⟨ws, hw, rfl⟩ := List.mem_map.mp hp
    have := row_signs (h ws hw) 10 hc
    omega
theorem rows_ne {rows : List (List (List Nat))} (h : ∀ ws ∈ rows, RwOk ws) (hn : rows ≠ []) : rowsJ rows ≠ [] := by
  match rows, h, hn with
  | [], h, hn => exact absurd rfl hn
  | [p], h, hn => exact row_ne (h p (by simp))
  | p :: q :: r, h, hn =>
    have := row_ne (h p (by simp))
    show rowX p ++ ([10] ++ joinD [10] ((q :: r).map rowX)) ≠ []
    simp
theorem rows_asc {rows : List (List (List Nat))} (h : ∀ ws ∈ rows, RwOk ws) : Asc (rowsJ rows) := fun c hc => by
  rcases joinD_mem2 hc with z | ⟨p, hp, z⟩
  · rw [List.mem_singleton.mp z]; decide
  · obtain ⟨ws, hw, rfl⟩ := List.mem_map.mp hp
    exact (row_signs (h ws hw) c z).2
theorem joinD_len1 (a : Nat) : ∀ ps : List (List Nat), (joinD [a] ps).length ≤ tot ps + ps.length
  | [] => by simp [joinD]
  | [p] => by simp [joinD, tot]
  | p :: q :: r => by
    have ih := joinD_len1 a (q :: r)
    show (p ++ ([a] ++ joinD [a] (q :: r))).length ≤ _
    rw [List.length_append, List.length_append, tot_cons]
    simp only [List.length_cons, List.length_nil] at ih ⊢
    omega
theorem tot_ones' (sd : List Nat) : tot (sd.map fun c => [c]) = sd.length := by
  induction sd with
  | nil => rfl
  | cons c sd ih => rw [List.map_cons, tot_cons, ih]; simp; omega
theorem chW_tot (b : Nat) (sd : List Nat) : tot (chW b sd) = 8 + sd.length ∧ (chW b sd).length = 3 + sd.length := by
  unfold chW
  rw [tot_cons, tot_cons, tot_cons, tot_ones']
  refine ⟨?_, ?_⟩
  · simp only [wCh, List.length_cons, List.length_nil]; omega
  · simp only [List.length_cons, List.length_map]; omega
theorem exW_tot (e : List Nat) : tot (exW e) = 8 + e.length ∧ (exW e).length = 1 + e.length := by
  unfold exW
  rw [tot_cons, tot_ones']
  refine ⟨?_, ?_⟩
  · simp only [wEx, List.length_cons, List.length_nil]
  · simp only [List.length_cons, List.length_map]; omega
theorem num_len6 {m : Nat} (h : m ≤ 999999) : (TL.numL m).length ≤ 6 := TL.numL_len (by decide) (by omega)
theorem num_head {m : Nat} : 1 ≤ m → ∃ c l, TL.numL m = c :: l ∧ c ≠ 48 := by
  induction m using Nat.strongRecOn with
  | _ m ih =>
    intro h
    by_cases z : m < 10
    · rw [TL.numL_lt z]; exact ⟨48 + m, [], rfl, by omega⟩
    · obtain ⟨c, l, e, hc⟩ := ih (m / 10) (by omega) (by omega)
      rw [TL.numL_step (by omega), e]
      exact ⟨c, l ++ [48 + m % 10], rfl, hc⟩
theorem flat_tot {n : Int} : ∀ {f : List FEnt}, (∀ x ∈ f, EntOk n x) → tot (f.flatMap entW) ≤ 8 * f.length ∧ (f.flatMap entW).length = 3 * f.length
  | [], _ => by simp [tot]
  | x :: f, h => by
    obtain ⟨i1, i2⟩ := flat_tot (f := f) fun y hy => h y (List.mem_cons_of_mem _ hy)
    have := num_len6 (h x (by simp)).nat
    rw [List.flatMap_cons, tot_app, List.length_append, i2, List.length_cons]
    refine ⟨?_, ?_⟩
    · show tot [[x.1], [x.2.1], TL.numL x.2.2.toNat] + _ ≤ _
      simp only [tot_cons, tot_nil, List.length_cons, List.length_nil]; omega
    · show ([[x.1], [x.2.1], TL.numL x.2.2.toNat] : List (List Nat)).length + _ = _
      simp only [List.length_cons, List.length_nil]; omega
theorem flW_tot {n : Int} {f : List FEnt} (h : ∀ x ∈ f, EntOk n x) : tot (flW f) ≤ 5 + 8 * f.length ∧ (flW f).length = 2 + 3 * f.length := by
  obtain ⟨i1, i2⟩ := flat_tot h
  unfold flW
  rw [tot_cons, tot_cons]
  refine ⟨?_, ?_⟩
  · simp only [wFl, List.length_cons, List.length_nil]; omega
  · simp only [List.length_cons, i2]; omega
/-- a word glued of two counts as two -/
theorem joinD_glue (a p q : List Nat) (r : List (List Nat)) : joinD a ((p ++ (a ++ q)) :: r) = joinD a (p :: q :: r) := by
  cases r with
  | nil => rfl
  | cons x r => show (p ++ (a ++ q)) ++ (a ++ joinD a (x :: r)) = p ++ (a ++ (q ++ (a ++ joinD a (x :: r)))); simp only [List.append_assoc]
theorem joinD_cons (a p : List Nat) {r : List (List Nat)} (h : r ≠ []) : joinD a (p :: r) = p ++ (a ++ joinD a r) := by
  cases r with
  | nil => exact absurd rfl h
  | cons x r => rfl
/-- the law's own words of a flow -/
def flL (f : List FEnt) : List (List Nat) := [102, 108, 111, 119, 32, 58] :: f.map fun x => [x.1] ++ [32] ++ [x.2.1] ++ [32] ++ TL.numL x.2.2.toNat
theorem ent_glue (f : List FEnt) (p : List Nat) : joinD [32] (p :: f.map fun x => [x.1] ++ [32] ++ [x.2.1] ++ [32] ++ TL.numL x.2.2.toNat) = joinD [32] (p :: f.flatMap entW) := by
  induction f generalizing p with
  | nil => rfl
  | cons x f ih =>
    rw [List.map_cons, List.flatMap_cons, joinD_cons _ _ (by simp), ih]
    have e1 : entW x ++ f.flatMap entW = [x.1] :: [x.2.1] :: TL.numL x.2.2.toNat :: f.flatMap entW := rfl
    rw [e1, joinD_cons _ p (by simp)]
    congr 2
    rw [show [x.1] ++ [32] ++ [x.2.1] ++ [32] ++ TL.numL x.2.2.toNat = [x.1] ++ ([32] ++ ([x.2.1] ++ ([32] ++ TL.numL x.2.2.toNat))) by simp, joinD_glue]
    rw [joinD_cons _ _ (by simp), joinD_glue]
    rw [joinD_cons [32] [x.1] (by simp)]
theorem flL_glue (f : List FEnt) : joinD [32] (flL f) = rowX (flW f) := by
  unfold flL rowX flW
  rw [ent_glue, show ([102, 108, 111, 119, 32, 58] : List Nat) = wFl ++ ([32] ++ [58]) by decide, joinD_glue]
theorem flL_tot {n : Int} : ∀ {f : List FEnt}, (∀ x ∈ f, EntOk n x) → tot (flL f) ≤ 6 + 10 * f.length ∧ (flL f).length = 1 + f.length := fun {f} h => by
  have : ∀ {f : List FEnt}, (∀ x ∈ f, EntOk n x) → tot (f.map fun x => [x.1] ++ [32] ++ [x.2.1] ++ [32] ++ TL.numL x.2.2.toNat) ≤ 10 * f.length := by
    intro f
    induction f with
    | nil => intro _; simp [tot]
    | cons x f ih =>
      intro h
      have i1 := ih fun y hy => h y (List.mem_cons_of_mem _ hy)
      have := num_len6 (h x (by simp)).nat
      rw [List.map_cons, tot_cons, List.length_cons]
      simp only [List.length_append, List.length_cons, List.length_nil] at i1 ⊢
      omega
  have h1 := this h
  unfold flL
  rw [tot_cons]
  refine ⟨?_, ?_⟩
  · simp only [List.length_cons, List.length_nil] at h1 ⊢; omega
  · rw [List.length_cons, List.length_map]; omega
/-- a number's figures -/
theorem digs_num (m : Nat) : digs (TL.numL m) = true := by
  unfold digs
  rw [List.all_eq_true]
  intro c hc
  have := TL.numL_digits m c hc
  rw [Bool.and_eq_true]
  exact ⟨decide_eq_true this.1, decide_eq_true this.2⟩
theorem opIntS_num {m : Nat} (h : m ≤ 999999) : opIntS [.str (TL.numL m)] = some (.sh (.int (m : Nat))) := by
  have h6 := num_len6 h
  unfold opIntS
  dsimp only
  rw [if_pos (by rw [digs_num, decide_eq_true (TL.numL_ne m), decide_eq_true (by omega)]; rfl), TL.numL_val]
theorem opStrI_num {m : Nat} (h : m ≤ 999999) : opStrI [.int (m : Nat)] = some (.sh (.str (TL.numL m))) := by
  unfold opStrI
  dsimp only
  rw [if_pos (by rw [decide_eq_true (by omega), decide_eq_true (by omega)]; rfl)]
  rfl
theorem opIntS_int {i : Int} (h0 : 0 ≤ i) (h : i ≤ 999999) : opIntS [.str (TL.numL i.toNat)] = some (.sh (.int i)) := by
  rw [opIntS_num (by omega), Int.toNat_of_nonneg h0]
theorem opStrI_int {i : Int} (h0 : 0 ≤ i) (h : i ≤ 999999) : opStrI [.int i] = some (.sh (.str (TL.numL i.toNat))) := by
  have := opStrI_num (m := i.toNat) (by omega)
  rwa [Int.toNat_of_nonneg h0] at this
/-- the words from 2 + 3 k on: the k-th entry -/
theorem flat_at : ∀ (f : List FEnt) (k : Nat) (x : FEnt), f[k]? = some x → (((f.flatMap entW).take (3 * k + 3)).drop (3 * k)) = entW x
  | [], k, x, h => by simp at h
  | y :: f, 0, x, h => by
    have : y = x := by simpa using h
    subst this
    rw [List.flatMap_cons]
    rfl
  | y :: f, k + 1, x, h => by
    have h' : f[k]? = some x := by simpa using h
    have ih := flat_at f k x h'
    rw [List.flatMap_cons]
    show ((([y.1] :: [y.2.1] :: TL.numL y.2.2.toNat :: f.flatMap entW).take (3 * (k + 1) + 3)).drop (3 * (k + 1))) = entW x
    rw [show 3 * (k + 1) + 3 = (3 * k + 3) + 1 + 1 + 1 by omega, show 3 * (k + 1) = (3 * k) + 1 + 1 + 1 by omega]
    simp only [List.take_succ_cons, List.drop_succ_cons]
    exact ih
theorem flW_at {f : List FEnt} {k : Nat} {x : FEnt} (h : f[k]? = some x) : ((flW f).take (2 + 3 * k + 3)).drop (2 + 3 * k) = entW x := by
  have := flat_at f k x h
  unfold flW
  rw [show 2 + 3 * k + 3 = (3 * k + 3) + 1 + 1 by omega, show 2 + 3 * k = (3 * k) + 1 + 1 by omega]
  simp only [List.take_succ_cons, List.drop_succ_cons]
  exact this
theorem eqD_tupNon (l : List D) : eqD (.tup l) .non = false := by simp only [eqD]
theorem opIn_none {l : List D} (hk : okD 64 (.lst l) = true) (hn : ∀ d ∈ l, eqD d .non = false) : opIn .non (.lst l) = some (.sh (.bl false)) := by
  have hi : inD .non l = false := by
    unfold inD
    rw [List.any_eq_false]
    intro d hd; rw [hn d hd]; simp
  unfold opIn inT
  dsimp only
  split
  · rw [hi]; rfl
  · rw [if_pos (by rw [hk]; rfl), hi]; rfl
theorem okD_ent {n : Int} {m : Nat} {x : FEnt} (h : EntOk n x) : okD (m + 1) (entD x) = true := okD_tupA fun d hd => by
  simp only [List.mem_cons, List.not_mem_nil, or_false] at hd
  have one : ∀ c ∈ lets, okD m (.str [c]) = true := fun c hc => okD_strA (okD_str fun y hy => by rw [List.mem_singleton.mp hy]; exact Nat.lt_trans (lets_lt hc) (by decide))
  rcases hd with rfl | rfl | rfl
  · exact one _ (Ln_lw n _ h.h1)
  · exact one _ (Ln_lw n _ h.h2)
  · exact okD_intA _ _
theorem chW_D (b : Nat) (sd : List Nat) : (chW b sd).map D.str = .str [99, 104, 97, 110, 103, 101] :: .str [b] :: .str [58] :: chars sd := by
  unfold chW chars wCh
  rw [List.map_cons, List.map_cons, List.map_cons, List.map_map]; rfl
theorem exW_D (e : List Nat) : (exW e).map D.str = .str [101, 120, 99, 104, 97, 110, 103, 101] :: chars e := by
  unfold exW chars wEx
  rw [List.map_cons, List.map_map]; rfl
theorem flW_D (f : List FEnt) : (flW f).map D.str = .str [102, 108, 111, 119] :: .str [58] :: (f.flatMap entW).map D.str := by
  unfold flW wFl
  rw [List.map_cons, List.map_cons]
theorem ix_lst {l : List D} {d : D} {i : Int} (h : 0 ≤ i) (e : l[i.toNat]? = some d) : opIx (.lst l) (.int i) = some (.sh d) := by
  unfold opIx
  dsimp only
  rw [atI_nn h e]; rfl
theorem step_row {n : Int} {s : Stp} (h : 1 ≤ n) (h' : n ≤ 4) (hs : StepOk n s) : RwOk (stepW s) ∧ (rowX (stepW s)).length ≤ 30 := by
  cases s with
  | chg b sd =>
    have g : Chg n b sd := hs
    have hsl : sd.length ≤ 8 := Nat.le_trans g.sub.length_le (Ln_len8 n)
    obtain ⟨t1, t2⟩ := chW_tot b sd
    have := joinD_len1 32 (chW b sd)
    exact ⟨rw_ch (Ln_lw n _ g.bn) g.lw, by show (joinD [32] (chW b sd)).length ≤ 30; omega⟩
  | exc e =>
    have g : Exg n e := hs
    have hel := g.len h
    obtain ⟨t1, t2⟩ := exW_tot e
    have := joinD_len1 32 (exW e)
    exact ⟨rw_ex g.lw, by show (joinD [32] (exW e)).length ≤ 30; omega⟩
theorem fl_row {n : Int} {f : List FEnt} (hf : ∀ x ∈ f, EntOk n x) : RwOk (flW f) ∧ (rowX (flW f)).length ≤ 7 + 11 * f.length := by
  obtain ⟨t1, t2⟩ := flW_tot hf
  have := joinD_len1 32 (flW f)
  exact ⟨rw_fl hf, by show (joinD [32] (flW f)).length ≤ _; omega⟩
theorem rows_len {k : Nat} {rows : List (List (List Nat))} (h : ∀ ws ∈ rows, (rowX ws).length ≤ k) : (rowsJ rows).length ≤ rows.length * (k + 1) := by
  have h1 := joinD_len1 10 (rows.map rowX)
  have h2 : tot (rows.map rowX) ≤ rows.length * k := by
    clear h1
    induction rows with
    | nil => simp [tot]
    | cons w rows ih =>
      have i1 := ih fun v hv => h v (List.mem_cons_of_mem _ hv)
      have i2 := h w (by simp)
      rw [List.map_cons, tot_cons, List.length_cons, Nat.succ_mul]
      omega
  show (joinD [10] (rows.map rowX)).length ≤ _
  rw [List.length_map] at h1
  rw [Nat.mul_succ]
  omega
theorem opJoin_tup {a : List Nat} {us : List (List Nat)} (h : (us.map List.length).sum + us.length * a.length ≤ big) : opJoin (.str a) [.tup (us.map .str)] = some (.sh (.str (joinD a us))) := by
  unfold opJoin
  simp only [allT_strs, Option.bind_some]
  rw [if_pos h]
/-- papers -/
abbrev Cg := Nat × List Nat
def ppD (chs : List Cg) (fls : List (List FEnt)) : D := .tup [.tup (chs.map fun c => chgD c.1 c.2), .tup (fls.map flD)]
def papR (chs : List Cg) (fls : List (List FEnt)) : List (List (List Nat)) := chs.map (fun c => chW c.1 c.2) ++ fls.map flW
structure PapOk (n : Int) (chs : List Cg) (fls : List (List FEnt)) : Prop where
  c : ∀ c ∈ chs, Chg n c.1 c.2
  f : ∀ f ∈ fls, ∀ x ∈ f, EntOk n x
  l1 : chs.length ≤ 1000
  l2 : fls.length ≤ 1000
  l3 : ∀ f ∈ fls, f.length ≤ 200
theorem pap_rows {n : Int} {chs : List Cg} {fls : List (List FEnt)} (h : 1 ≤ n) (h' : n ≤ 4) (p : PapOk n chs fls) : ∀ ws ∈ papR chs fls, RwOk ws ∧ (rowX ws).length ≤ 2300 := fun ws hw => by
  rcases List.mem_append.mp hw with hw | hw
  · obtain ⟨c, hc, rfl⟩ := List.mem_map.mp hw
    obtain ⟨q1, q2⟩ := step_row (s := .chg c.1 c.2) h h' (p.c c hc)
    exact ⟨q1, by have : (rowX (chW c.1 c.2)).length ≤ 30 := q2; omega⟩
  · obtain ⟨f, hf, rfl⟩ := List.mem_map.mp hw
    obtain ⟨q1, q2⟩ := fl_row (p.f f hf)
    exact ⟨q1, by have := p.l3 f hf; omega⟩
theorem pap_len {n : Int} {chs : List Cg} {fls : List (List FEnt)} (h : 1 ≤ n) (h' : n ≤ 4) (p : PapOk n chs fls) : (rowsJ (papR chs fls)).length ≤ 4700000 ∧ (papR chs fls).length = chs.length + fls.length := by
  have e : (papR chs fls).length = chs.length + fls.length := by unfold papR; rw [List.length_append, List.length_map, List.length_map]
  refine ⟨?_, e⟩
  have h1 := rows_len fun ws hw => (pap_rows h h' p ws hw).2
  have h2 := p.l1
  have h3 := p.l2
  rw [e] at h1
  have : (chs.length + fls.length) * (2300 + 1) ≤ 2000 * 2301 := Nat.mul_le_mul (by omega) (by omega)
  omega
end Z
namespace T
open PySem PySem.Spec L2 Z
noncomputable section
def m_law_flow : MS := (MS.ret (M.lstOf (M.cons (M.blt opList (M.cons (M.var 0) M.nil)) (M.cons (M.cst (.int 0)) (M.cons (M.cst (.int 0)) (M.cons (M.cst (.int 1)) (M.cons (M.cst (.int 0)) M.nil)))))))
def f_law_flow : Fn := (Fn.of 1 m_law_flow).nox
def m_law_pick : MS := (MS.seq (MS.ite ((M.and (M.toB (M.bin opEq (M.bin opIx (M.var 0) (M.cst (.int 2))) (M.cst (.int 0)))) (M.toB (M.bin opLtA (M.bin opIx (M.var 0) (M.cst (.int 1))) (M.blt opLen (M.cons (M.bin opIx (M.var 0) (M.cst (.int 0))) M.nil))))))
   (MS.seq (MS.asg 2 (M.bin opIx (M.bin opIx (M.var 0) (M.cst (.int 0))) (M.bin opIx (M.var 0) (M.cst (.int 1)))))
   (MS.seq (MS.setIx (M.bin opAdd (M.bin opIx (M.var 0) (M.cst (.int 1))) (M.cst (.int 1))) (M.var 0) (M.cst (.int 1)))
   (MS.ite (M.toB (M.bin opGe (M.var 2) (M.bin opPow (M.cst (.int 10)) (M.cst (.int 18)))))
    (MS.setIx (M.var 2) (M.var 0) (M.cst (.int 2)))
    (MS.setIx (M.bin opMod (M.bin opAdd (M.bin opAdd (M.bin opMul (M.bin opIx (M.var 0) (M.cst (.int 3))) (M.cst (.int 40013))) (M.bin opMod (M.var 2) (M.cst (.int 1000003)))) (M.cst (.int 1))) (M.cst (.int 2147483647))) (M.var 0) (M.cst (.int 3))))))
   MS.pass)
  (MS.seq (MS.ite (M.toB (M.bin opGt (M.bin opIx (M.var 0) (M.cst (.int 2))) (M.cst (.int 0))))
   (MS.seq (MS.asg 3 (M.bin opMod (M.bin opIx (M.var 0) (M.cst (.int 2))) (M.var 1)))
   (MS.seq (MS.setIx (M.bin opFdiv (M.bin opIx (M.var 0) (M.cst (.int 2))) (M.var 1)) (M.var 0) (M.cst (.int 2)))
   (MS.ret (M.var 3))))
   MS.pass)
  (MS.seq (MS.setIx (M.bin opAdd (M.bin opIx (M.var 0) (M.cst (.int 4))) (M.cst (.int 1))) (M.var 0) (M.cst (.int 4)))
  (MS.seq (MS.setIx (M.bin opMod (M.bin opAdd (M.bin opAdd (M.bin opMul (M.bin opIx (M.var 0) (M.cst (.int 3))) (M.cst (.int 48271))) (M.cst (.int 12820163))) (M.bin opIx (M.var 0) (M.cst (.int 4)))) (M.cst (.int 2147483647))) (M.var 0) (M.cst (.int 3)))
  (MS.ret (M.bin opMod (M.bin opFdiv (M.bin opMod (M.bin opMul (M.bin opAdd (M.bin opMod (M.bin opIx (M.var 0) (M.cst (.int 3))) (M.cst (.int 65521))) (M.cst (.int 1))) (M.bin opAdd (M.bin opFdiv (M.bin opIx (M.var 0) (M.cst (.int 3))) (M.cst (.int 65521))) (M.cst (.int 7919)))) (M.cst (.int 1000003))) (M.cst (.int 7))) (M.var 1)))))))
def f_law_pick : Fn := (Fn.of 4 m_law_pick).nox
def m_law_step_text : MS := (MS.seq (MS.ite (M.toB (M.bin opEq (M.bin opIx (M.var 0) (M.cst (.int 0))) (M.cst (.str [101, 120, 99, 104, 97, 110, 103, 101]))))
   (MS.ret (M.meth "str" opJoin (M.cst (.str [32])) (M.cons (M.bin opAdd (M.tupOf (M.cons (M.cst (.str [101, 120, 99, 104, 97, 110, 103, 101])) M.nil)) (M.bin opIx (M.var 0) (M.cst (.int 1)))) M.nil)))
   MS.pass)
  (MS.ret (M.meth "str" opJoin (M.cst (.str [32])) (M.cons (M.bin opAdd (M.tupOf (M.cons (M.cst (.str [99, 104, 97, 110, 103, 101])) (M.cons (M.bin opIx (M.var 0) (M.cst (.int 1))) (M.cons (M.cst (.str [58])) M.nil)))) (M.bin opIx (M.var 0) (M.cst (.int 2)))) M.nil))))
def f_law_step_text : Fn := (Fn.of 1 m_law_step_text).nox
def m_law_road_text : MS := (MS.ret (M.meth "str" opJoin (M.cst (.str [10])) (M.cons (M.lc [1] (.n 1) (M.seq (M.var 0)) M.yes (M.call f_law_step_text (M.cons (M.var 1) M.nil))) M.nil)))
def f_law_road_text : Fn := (Fn.of 2 m_law_road_text).nox
def m_law_flow_text : MS := (MS.seq (MS.asg 1 (M.lstOf (M.cons (M.cst (.str [102, 108, 111, 119, 32, 58])) M.nil)))
  (MS.seq (MS.for (.t [(.n 2), (.n 3), (.n 4)]) (M.seq (M.var 0))
   (MS.expr (M.mut opAppend (M.var 1) (M.cons (M.bin opAdd (M.bin opAdd (M.bin opAdd (M.bin opAdd (M.var 2) (M.cst (.str [32]))) (M.var 3)) (M.cst (.str [32]))) (M.blt opStrI (M.cons (M.var 4) M.nil))) M.nil))))
  (MS.ret (M.meth "str" opJoin (M.cst (.str [32])) (M.cons (M.var 1) M.nil)))))
def f_law_flow_text : Fn := (Fn.of 5 m_law_flow_text).nox
def m_law_paper_text : MS := (MS.seq (MS.asg 1 (M.lc [2] (.n 2) (M.seq (M.bin opIx (M.var 0) (M.cst (.int 0)))) M.yes (M.call f_law_step_text (M.cons (M.bin opAdd (M.tupOf (M.cons (M.cst (.str [99, 104, 97, 110, 103, 101])) M.nil)) (M.var 2)) M.nil))))
  (MS.ret (M.meth "str" opJoin (M.cst (.str [10])) (M.cons (M.bin opAdd (M.var 1) (M.lc [3] (.n 3) (M.seq (M.bin opIx (M.var 0) (M.cst (.int 1)))) M.yes (M.call f_law_flow_text (M.cons (M.var 3) M.nil)))) M.nil))))
def f_law_paper_text : Fn := (Fn.of 4 m_law_paper_text).nox
def m_law_alike (self : Fn) : MS := (MS.seq (MS.ite (M.toB (M.un (opIsiT ["list", "tuple"]) (M.var 1)))
   (MS.seq (MS.ite (M.toB (M.bin opNe (M.un (opIsi "list") (M.var 0)) (M.un (opIsi "list") (M.var 1))))
    (MS.ret (M.cst (.bl false)))
    MS.pass)
   (MS.seq (MS.ite (M.toB (M.bin opNe (M.un (opIsi "tuple") (M.var 0)) (M.un (opIsi "tuple") (M.var 1))))
    (MS.ret (M.cst (.bl false)))
    MS.pass)
   (MS.ret ((M.andV (M.bin opEq (M.blt opLen (M.cons (M.var 0) M.nil)) (M.blt opLen (M.cons (M.var 1) M.nil))) (M.blt opAll (M.cons (M.lc [2] (.n 2) (M.args rngD1 (M.cons (M.blt opLen (M.cons (M.var 1) M.nil)) M.nil)) M.yes (M.call self (M.cons (M.bin opIx (M.var 0) (M.var 2)) (M.cons (M.bin opIx (M.var 1) (M.var 2)) M.nil)))) M.nil)))))))
   MS.pass)
  (MS.ret ((M.andV (M.bin opEq (M.un (opIsi "bool") (M.var 0)) (M.un (opIsi "bool") (M.var 1))) (M.bin opEq (M.var 0) (M.var 1))))))
def f_law_alike : Nat → Fn
  | 0 => Fn.no
  | n + 1 => (Fn.of 3 (m_law_alike (f_law_alike n))).nox
def m_change_text : MS := (MS.ret (M.meth "str" opJoin (M.cst (.str [32])) (M.cons (M.bin opAdd (M.lstOf (M.cons (M.cst (.str [99, 104, 97, 110, 103, 101])) (M.cons (M.var 0) (M.cons (M.cst (.str [58])) M.nil)))) (M.blt opList (M.cons (M.var 1) M.nil))) M.nil)))
def f_change_text : Fn := (Fn.of 2 m_change_text).nox
def m_flow_text : MS := (MS.seq (MS.asg 1 (M.lstOf (M.cons (M.cst (.str [102, 108, 111, 119])) (M.cons (M.cst (.str [58])) M.nil))))
  (MS.seq (MS.for (.t [(.n 2), (.n 3), (.n 4)]) (M.seq (M.var 0))
   (MS.asg 1 (M.bin opAdd (M.var 1) (M.lstOf (M.cons (M.var 2) (M.cons (M.var 3) (M.cons (M.blt opStrI (M.cons (M.var 4) M.nil)) M.nil)))))))
  (MS.ret (M.meth "str" opJoin (M.cst (.str [32])) (M.cons (M.var 1) M.nil)))))
def f_flow_text : Fn := (Fn.of 5 m_flow_text).nox
def m_show_paper : MS := (MS.seq (MS.asg 1 (M.lc [2, 3] (.t [(.n 2), (.n 3)]) (M.seq (M.bin opIx (M.var 0) (M.cst (.int 0)))) M.yes (M.call f_change_text (M.cons (M.var 2) (M.cons (M.var 3) M.nil)))))
  (MS.ret (M.meth "str" opJoin (M.cst (.str [10])) (M.cons (M.bin opAdd (M.var 1) (M.lc [4] (.n 4) (M.seq (M.bin opIx (M.var 0) (M.cst (.int 1)))) M.yes (M.call f_flow_text (M.cons (M.var 4) M.nil)))) M.nil))))
def f_show_paper : Fn := (Fn.of 5 m_show_paper).nox
def m_rows_of : MS := (MS.seq (MS.ite (M.toB (M.bin opEq (M.var 0) (M.cst (.str []))))
   (MS.ret (M.lstOf M.nil))
   MS.pass)
  (MS.ret (M.lc [1] (.n 1) (M.seq (M.meth "str" opSplit (M.var 0) (M.cons (M.cst (.str [10])) M.nil))) M.yes (M.meth "str" opSplit (M.var 1) (M.cons (M.cst (.str [32])) M.nil)))))
def f_rows_of : Fn := (Fn.of 2 m_rows_of).nox
def m_letters_of : MS := (MS.ret (M.blt opTuple (M.cons (M.slice (M.cst (.str [97, 65, 98, 66, 99, 67, 100, 68])) M.no (M.toI (M.bin opMul (M.cst (.int 2)) (M.var 0)))) M.nil)))
def f_letters_of : Fn := (Fn.of 1 m_letters_of).nox
def m_is_number : MS := (MS.ret ((M.andV (M.chain opLe opLe (M.cst (.int 1)) (M.blt opLen (M.cons (M.var 0) M.nil)) (M.cst (.int 6))) (M.andV (M.bin opNe (M.bin opIx (M.var 0) (M.cst (.int 0))) (M.cst (.str [48]))) (M.blt opAll (M.cons (M.lc [1] (.n 1) (M.seq (M.var 0)) M.yes (M.chain opLe opLe (M.cst (.str [48])) (M.var 1) (M.cst (.str [57])))) M.nil))))))
def f_is_number : Fn := (Fn.of 2 m_is_number).nox
def m_read_entry : MS := (MS.seq (MS.asg 2 (M.call f_letters_of (M.cons (M.var 0) M.nil)))
  (MS.seq (MS.ite ((M.or (M.toB (M.bin opNotIn (M.bin opIx (M.var 1) (M.cst (.int 0))) (M.var 2))) (M.or (M.toB (M.bin opNotIn (M.bin opIx (M.var 1) (M.cst (.int 1))) (M.var 2))) (M.not (M.toB (M.call f_is_number (M.cons (M.bin opIx (M.var 1) (M.cst (.int 2))) M.nil)))))))
   (MS.ret (M.cst .non))
   MS.pass)
  (MS.ret (M.tupOf (M.cons (M.bin opIx (M.var 1) (M.cst (.int 0))) (M.cons (M.bin opIx (M.var 1) (M.cst (.int 1))) (M.cons (M.blt opIntS (M.cons (M.bin opIx (M.var 1) (M.cst (.int 2))) M.nil)) M.nil)))))))
def f_read_entry : Fn := (Fn.of 3 m_read_entry).nox
def m_read_flow : MS := (MS.seq (MS.ite ((M.or (M.toB (M.bin opNe (M.slice (M.var 1) M.no (M.toI (M.cst (.int 2)))) (M.lstOf (M.cons (M.cst (.str [102, 108, 111, 119])) (M.cons (M.cst (.str [58])) M.nil))))) (M.toB (M.bin opNe (M.bin opMod (M.blt opLen (M.cons (M.var 1) M.nil)) (M.cst (.int 3))) (M.cst (.int 2))))))
   (MS.ret (M.cst .non))
   MS.pass)
  (MS.seq (MS.asg 2 (M.lc [3] (.n 3) (M.args rngD3 (M.cons (M.cst (.int 2)) (M.cons (M.blt opLen (M.cons (M.var 1) M.nil)) (M.cons (M.cst (.int 3)) M.nil)))) M.yes (M.call f_read_entry (M.cons (M.var 0) (M.cons (M.slice (M.var 1) (M.toI (M.var 3)) (M.toI (M.bin opAdd (M.var 3) (M.cst (.int 3))))) M.nil)))))
  (MS.seq (MS.ite (M.toB (M.bin opIn (M.cst .non) (M.var 2)))
   (MS.ret (M.cst .non))
   MS.pass)
  (MS.ret (M.blt opTuple (M.cons (M.var 2) M.nil))))))
def f_read_flow : Fn := (Fn.of 4 m_read_flow).nox
def m_letters_of__t : MS := (MS.ret (M.blt opTupT (M.cons (M.slice (M.cst (.str [97, 65, 98, 66, 99, 67, 100, 68])) M.no (M.toI (M.bin opMul (M.cst (.int 2)) (M.var 0)))) M.nil)))
def f_letters_of__t : Fn := (Fn.of 1 m_letters_of__t).nox
def m_contrary : MS := (MS.seq (MS.ite (M.toB (M.meth0 "str" opIslower (M.var 0)))
   (MS.ret (M.meth0 "str" opUpper (M.var 0)))
   MS.pass)
  (MS.ret (M.meth0 "str" opLower (M.var 0))))
def f_contrary : Fn := (Fn.of 1 m_contrary).nox
def m_is_side : MS := (MS.seq (MS.asg 3 (M.call f_letters_of__t (M.cons (M.var 0) M.nil)))
  (MS.seq (MS.ite ((M.or (M.toB (M.bin opNotIn (M.var 1) (M.var 2))) (M.or (M.toB (M.bin opIn (M.call f_contrary (M.cons (M.var 1) M.nil)) (M.var 2))) (M.not (M.toB (M.blt opAll (M.cons (M.lc [5] (.n 5) (M.seq (M.var 2)) M.yes (M.bin opInP (M.var 5) (M.var 3))) M.nil)))))))
   (MS.ret (M.cst (.bl false)))
   MS.pass)
  (MS.seq (MS.asg 4 (M.lc [5] (.n 5) (M.seq (M.var 2)) M.yes (M.methP opPIndex (M.var 3) (M.cons (M.var 5) M.nil))))
  (MS.ret (M.bin opEq (M.var 4) (M.un opSortSet (M.var 4)))))))
def f_is_side : Fn := (Fn.of 6 m_is_side).nox
def m_is_change : MS := (MS.ret ((M.andV (M.bin opIn (M.bin opIx (M.var 1) (M.cst (.int 0))) (M.call f_letters_of (M.cons (M.var 0) M.nil))) (M.call f_is_side (M.cons (M.var 0) (M.cons (M.bin opIx (M.var 1) (M.cst (.int 0))) (M.cons (M.bin opIx (M.var 1) (M.cst (.int 1))) M.nil)))))))
def f_is_change : Fn := (Fn.of 2 m_is_change).nox
def m_look_change : MS := (MS.seq (MS.ite (M.toB (M.bin opNotIn (M.bin opIx (M.var 1) (M.cst (.int 0))) (M.call f_letters_of (M.cons (M.var 0) M.nil))))
   (MS.bad)
   MS.pass)
  (MS.seq (MS.ite (M.not (M.toB (M.call f_is_change (M.cons (M.var 0) (M.cons (M.var 1) M.nil)))))
   (MS.bad)
   MS.pass)
  (MS.ret (M.cst (.bl true)))))
def f_look_change : Fn := (Fn.of 2 m_look_change).nox
def m_read_change : MS := (MS.seq (MS.ite ((M.or (M.toB (M.bin opLtA (M.blt opLen (M.cons (M.var 1) M.nil)) (M.cst (.int 3)))) (M.or (M.toB (M.bin opNe (M.bin opIx (M.var 1) (M.cst (.int 0))) (M.cst (.str [99, 104, 97, 110, 103, 101])))) (M.toB (M.bin opNe (M.bin opIx (M.var 1) (M.cst (.int 2))) (M.cst (.str [58])))))))
   (MS.ret (M.cst .non))
   MS.pass)
  (MS.seq (MS.asg 2 (M.tupOf (M.cons (M.bin opIx (M.var 1) (M.cst (.int 1))) (M.cons (M.blt opTuple (M.cons (M.slice (M.var 1) (M.toI (M.cst (.int 3))) M.no) M.nil)) M.nil))))
  (MS.seq ((MS.expr (M.call f_look_change (M.cons (M.var 0) (M.cons (M.var 2) M.nil)))))
  (MS.ret (M.var 2)))))
def f_read_change : Fn := (Fn.of 3 m_read_change).nox
def m_read_paper : MS := (MS.seq (MS.asg 2 (M.lstOf M.nil))
  (MS.seq (MS.asg 3 (M.lstOf M.nil))
  (MS.seq (MS.for (.t [(.n 4), (.n 5)]) (M.enum (M.call f_rows_of (M.cons (M.var 1) M.nil)))
   (MS.seq (MS.asg 6 (M.cst .non))
   (MS.seq (MS.ite (M.toB (M.bin opEq (M.blt opLen (M.cons (M.var 3) M.nil)) (M.cst (.int 0))))
    (MS.asg 6 (M.call f_read_change (M.cons (M.var 0) (M.cons (M.var 5) M.nil))))
    MS.pass)
   (MS.seq (MS.asg 7 (M.call f_read_flow (M.cons (M.var 0) (M.cons (M.var 5) M.nil))))
   (MS.seq (MS.ite ((M.and (M.toB (M.bin opIs (M.var 6) (M.cst .non))) (M.toB (M.bin opIs (M.var 7) (M.cst .non)))))
    (MS.bad)
    MS.pass)
   (MS.ite (M.toB (M.bin opIs (M.var 6) (M.cst .non)))
    (MS.expr (M.mut opAppend (M.var 3) (M.cons (M.var 7) M.nil)))
    (MS.expr (M.mut opAppend (M.var 2) (M.cons (M.var 6) M.nil)))))))))
  (MS.ret (M.tupOf (M.cons (M.blt opTuple (M.cons (M.var 2) M.nil)) (M.cons (M.blt opTuple (M.cons (M.var 3) M.nil)) M.nil)))))))
def f_read_paper : Fn := (Fn.of 8 m_read_paper).nox
def m_step_text : MS := (MS.seq (MS.ite (M.toB (M.bin opEq (M.bin opIx (M.var 0) (M.cst (.int 0))) (M.cst (.str [99, 104, 97, 110, 103, 101]))))
   (MS.ret (M.call f_change_text (M.cons (M.bin opIx (M.var 0) (M.cst (.int 1))) (M.cons (M.bin opIx (M.var 0) (M.cst (.int 2))) M.nil))))
   MS.pass)
  (MS.ret (M.meth "str" opJoin (M.cst (.str [32])) (M.cons (M.bin opAdd (M.lstOf (M.cons (M.cst (.str [101, 120, 99, 104, 97, 110, 103, 101])) M.nil)) (M.blt opList (M.cons (M.bin opIx (M.var 0) (M.cst (.int 1))) M.nil))) M.nil))))
def f_step_text : Fn := (Fn.of 1 m_step_text).nox
def m_show_road : MS := (MS.ret (M.meth "str" opJoin (M.cst (.str [10])) (M.cons (M.lc [1] (.n 1) (M.seq (M.var 0)) M.yes (M.call f_step_text (M.cons (M.var 1) M.nil))) M.nil)))
def f_show_road : Fn := (Fn.of 2 m_show_road).nox
def m_read_exchange : MS := (MS.seq (MS.asg 2 (M.call f_letters_of (M.cons (M.var 0) M.nil)))
  (MS.seq (MS.ite ((M.or (M.toB (M.bin opNe (M.blt opLen (M.cons (M.var 1) M.nil)) (M.bin opAdd (M.var 0) (M.cst (.int 1))))) (M.or (M.toB (M.bin opNe (M.bin opIx (M.var 1) (M.cst (.int 0))) (M.cst (.str [101, 120, 99, 104, 97, 110, 103, 101])))) (M.not (M.toB (M.blt opAll (M.cons (M.lc [3] (.n 3) (M.seq (M.slice (M.var 1) (M.toI (M.cst (.int 1))) M.no)) M.yes (M.bin opIn (M.var 3) (M.var 2))) M.nil)))))))
   (MS.ret (M.cst .non))
   MS.pass)
  (MS.seq (MS.ite (M.toB (M.bin opNe (M.blt opSortT (M.cons (M.lc [3] (.n 3) (M.seq (M.slice (M.var 1) (M.toI (M.cst (.int 1))) M.no)) M.yes (M.meth0 "str" opLower (M.var 3))) M.nil)) (M.blt opList (M.cons (M.slice (M.cst (.str [97, 98, 99, 100])) M.no (M.toI (M.var 0))) M.nil))))
   (MS.ret (M.cst .non))
   MS.pass)
  (MS.ret (M.blt opTuple (M.cons (M.slice (M.var 1) (M.toI (M.cst (.int 1))) M.no) M.nil))))))
def f_read_exchange : Fn := (Fn.of 4 m_read_exchange).nox
def m_read_step : MS := (MS.seq (MS.asg 2 (M.call f_read_change (M.cons (M.var 0) (M.cons (M.var 1) M.nil))))
  (MS.seq (MS.ite (M.toB (M.bin opIsNot (M.var 2) (M.cst .non)))
   (MS.ret (M.bin opAdd (M.tupOf (M.cons (M.cst (.str [99, 104, 97, 110, 103, 101])) M.nil)) (M.var 2)))
   MS.pass)
  (MS.seq (MS.asg 3 (M.call f_read_exchange (M.cons (M.var 0) (M.cons (M.var 1) M.nil))))
  (MS.seq (MS.ite (M.toB (M.bin opIs (M.var 3) (M.cst .non)))
   (MS.ret (M.cst .non))
   MS.pass)
  (MS.ret (M.tupOf (M.cons (M.cst (.str [101, 120, 99, 104, 97, 110, 103, 101])) (M.cons (M.var 3) M.nil))))))))
def f_read_step : Fn := (Fn.of 4 m_read_step).nox
def m_read_road : MS := (MS.seq (MS.asg 2 (M.lc [3] (.n 3) (M.seq (M.call f_rows_of (M.cons (M.var 1) M.nil))) M.yes (M.call f_read_step (M.cons (M.var 0) (M.cons (M.var 3) M.nil)))))
  (MS.seq (MS.ite (M.toB (M.bin opIn (M.cst .non) (M.var 2)))
   (MS.bad)
   MS.pass)
  (MS.ret (M.blt opTuple (M.cons (M.var 2) M.nil)))))
def f_read_road : Fn := (Fn.of 4 m_read_road).nox
def m_law_right : MS := (MS.seq (MS.asg 3 (M.call f_law_road_text (M.cons (M.var 1) M.nil)))
  (MS.seq (MS.ite ((M.or (M.not (M.toB (M.call (f_law_alike 8) (M.cons (M.call f_show_road (M.cons (M.var 1) M.nil)) (M.cons (M.var 3) M.nil))))) (M.not (M.toB (M.call (f_law_alike 8) (M.cons (M.call f_read_road (M.cons (M.var 0) (M.cons (M.var 3) M.nil))) (M.cons (M.var 1) M.nil)))))))
   (MS.ret (M.cst (.bl false)))
   MS.pass)
  (MS.seq (MS.asg 3 (M.call f_law_paper_text (M.cons (M.var 2) M.nil)))
  (MS.ret ((M.andV (M.call (f_law_alike 8) (M.cons (M.call f_show_paper (M.cons (M.var 2) M.nil)) (M.cons (M.var 3) M.nil))) (M.call (f_law_alike 8) (M.cons (M.call f_read_paper (M.cons (M.var 0) (M.cons (M.var 3) M.nil))) (M.cons (M.var 2) M.nil)))))))))
def f_law_right : Fn := (Fn.of 4 m_law_right).nox
def m_law_letters : MS := (MS.ret (M.blt opList (M.cons (M.slice (M.cst (.str [97, 65, 98, 66, 99, 67, 100, 68])) M.no (M.toI (M.bin opMul (M.cst (.int 2)) (M.var 0)))) M.nil)))
def f_law_letters : Fn := (Fn.of 1 m_law_letters).nox
def m_law_contrary : MS := (MS.seq (MS.ite (M.toB (M.meth0 "str" opIslower (M.var 0)))
   (MS.ret (M.meth0 "str" opUpper (M.var 0)))
   MS.pass)
  (MS.ret (M.meth0 "str" opLower (M.var 0))))
def f_law_contrary : Fn := (Fn.of 1 m_law_contrary).nox
def m_law_drawn_change : MS := (MS.seq (MS.asg 2 (M.bin opIx (M.call f_law_letters (M.cons (M.var 1) M.nil)) (M.call f_law_pick (M.cons (M.var 0) (M.cons (M.bin opMul (M.cst (.int 2)) (M.var 1)) M.nil)))))
  (MS.seq (MS.asg 3 (M.lstOf M.nil))
  (MS.seq (MS.for (.n 4) (M.seq (M.call f_law_letters (M.cons (M.var 1) M.nil)))
   (MS.ite ((M.or (M.toB (M.bin opEq (M.var 4) (M.var 2))) ((M.and (M.toB (M.bin opNe (M.var 4) (M.call f_law_contrary (M.cons (M.var 2) M.nil)))) (M.toB (M.bin opEq (M.call f_law_pick (M.cons (M.var 0) (M.cons (M.cst (.int 2)) M.nil))) (M.cst (.int 0))))))))
    (MS.expr (M.mut opAppend (M.var 3) (M.cons (M.var 4) M.nil)))
    MS.pass))
  (MS.ret (M.tupOf (M.cons (M.var 2) (M.cons (M.blt opTuple (M.cons (M.var 3) M.nil)) M.nil)))))))
def f_law_drawn_change : Fn := (Fn.of 5 m_law_drawn_change).nox
def m_law_exchange : MS := (MS.seq (MS.asg 2 (M.blt opList (M.cons (M.slice (M.cst (.str [97, 98, 99, 100])) M.no (M.toI (M.var 1))) M.nil)))
  (MS.seq (MS.asg 3 (M.lstOf M.nil))
  (MS.seq (MS.for (.n 4) (M.args rngD1 (M.cons (M.var 1) M.nil))
   (MS.seq (MS.asg 5 (M.mut opPop (M.var 2) (M.cons (M.call f_law_pick (M.cons (M.var 0) (M.cons (M.blt opLen (M.cons (M.var 2) M.nil)) M.nil))) M.nil)))
   (MS.expr (M.mut opAppend (M.var 3) (M.cons (M.bin opIx (M.lstOf (M.cons (M.var 5) (M.cons (M.meth0 "str" opUpper (M.var 5)) M.nil))) (M.call f_law_pick (M.cons (M.var 0) (M.cons (M.cst (.int 2)) M.nil)))) M.nil)))))
  (MS.ret (M.blt opTuple (M.cons (M.var 3) M.nil))))))
def f_law_exchange : Fn := (Fn.of 6 m_law_exchange).nox
def m_law_drawn_step : MS := (MS.seq (MS.ite (M.toB (M.bin opEq (M.call f_law_pick (M.cons (M.var 0) (M.cons (M.cst (.int 3)) M.nil))) (M.cst (.int 0))))
   (MS.ret (M.tupOf (M.cons (M.cst (.str [101, 120, 99, 104, 97, 110, 103, 101])) (M.cons (M.call f_law_exchange (M.cons (M.var 0) (M.cons (M.var 1) M.nil))) M.nil))))
   MS.pass)
  (MS.ret (M.bin opAdd (M.tupOf (M.cons (M.cst (.str [99, 104, 97, 110, 103, 101])) M.nil)) (M.call f_law_drawn_change (M.cons (M.var 0) (M.cons (M.var 1) M.nil))))))
def f_law_drawn_step : Fn := (Fn.of 2 m_law_drawn_step).nox
def m_law_drawn_road : MS := (MS.ret (M.blt opTuple (M.cons (M.lc [2] (.n 2) (M.args rngD1 (M.cons (M.call f_law_pick (M.cons (M.var 0) (M.cons (M.cst (.int 7)) M.nil))) M.nil)) M.yes (M.call f_law_drawn_step (M.cons (M.var 0) (M.cons (M.var 1) M.nil)))) M.nil)))
def f_law_drawn_road : Fn := (Fn.of 3 m_law_drawn_road).nox
def m_law_drawn_entry : MS := (MS.seq (MS.asgT (.t [(.n 2), (.n 3)]) (M.lc [4] (.n 4) (M.args rngD1 (M.cons (M.cst (.int 2)) M.nil)) M.yes (M.bin opIx (M.call f_law_letters (M.cons (M.var 1) M.nil)) (M.call f_law_pick (M.cons (M.var 0) (M.cons (M.bin opMul (M.cst (.int 2)) (M.var 1)) M.nil))))))
  (MS.ret (M.tupOf (M.cons (M.var 2) (M.cons (M.var 3) (M.cons (M.bin opAdd (M.cst (.int 1)) (M.bin opIx (M.lstOf (M.cons (M.call f_law_pick (M.cons (M.var 0) (M.cons (M.cst (.int 12)) M.nil))) (M.cons (M.call f_law_pick (M.cons (M.var 0) (M.cons (M.cst (.int 999999)) M.nil))) M.nil))) (M.call f_law_pick (M.cons (M.var 0) (M.cons (M.cst (.int 2)) M.nil))))) M.nil))))))
def f_law_drawn_entry : Fn := (Fn.of 5 m_law_drawn_entry).nox
def m_law_drawn_paper : MS := (MS.seq (MS.asg 2 (M.bin opIx (M.lstOf (M.cons (M.call f_law_pick (M.cons (M.var 0) (M.cons (M.cst (.int 4)) M.nil))) (M.cons (M.call f_law_pick (M.cons (M.var 0) (M.cons (M.cst (.int 25)) M.nil))) M.nil))) (M.blt opIntC (M.cons (M.bin opEq (M.call f_law_pick (M.cons (M.var 0) (M.cons (M.cst (.int 4)) M.nil))) (M.cst (.int 0))) M.nil))))
  (MS.seq (MS.asg 3 (M.blt opTuple (M.cons (M.lc [5] (.n 5) (M.args rngD1 (M.cons (M.var 2) M.nil)) M.yes (M.call f_law_drawn_change (M.cons (M.var 0) (M.cons (M.var 1) M.nil)))) M.nil)))
  (MS.seq (MS.asg 4 (M.lstOf M.nil))
  (MS.seq (MS.for (.n 5) (M.args rngD1 (M.cons (M.call f_law_pick (M.cons (M.var 0) (M.cons (M.cst (.int 6)) M.nil))) M.nil))
   (MS.expr (M.mut opAppend (M.var 4) (M.cons (M.blt opTuple (M.cons (M.lc [6] (.n 6) (M.args rngD1 (M.cons (M.call f_law_pick (M.cons (M.var 0) (M.cons (M.cst (.int 4)) M.nil))) M.nil)) M.yes (M.call f_law_drawn_entry (M.cons (M.var 0) (M.cons (M.var 1) M.nil)))) M.nil)) M.nil))))
  (MS.ret (M.tupOf (M.cons (M.var 3) (M.cons (M.blt opTuple (M.cons (M.var 4) M.nil)) M.nil))))))))
def f_law_drawn_paper : Fn := (Fn.of 7 m_law_drawn_paper).nox
def m_law : MS := (MS.seq (MS.asg 1 (M.call f_law_flow (M.cons (M.var 0) M.nil)))
  (MS.seq (MS.asg 2 (M.lstOf M.nil))
  (MS.seq (MS.for (.n 3) (M.args rngD1 (M.cons (M.cst (.int 2)) M.nil))
   (MS.seq (MS.asg 5 (M.bin opAdd (M.cst (.int 1)) (M.call f_law_pick (M.cons (M.var 1) (M.cons (M.cst (.int 4)) M.nil)))))
   (MS.expr (M.mut opAppend (M.var 2) (M.cons (M.tupOf (M.cons (M.var 5) (M.cons (M.call f_law_drawn_road (M.cons (M.var 1) (M.cons (M.var 5) M.nil))) (M.cons (M.call f_law_drawn_paper (M.cons (M.var 1) (M.cons (M.var 5) M.nil))) M.nil)))) M.nil)))))
  (MS.seq (MS.asg 4 (M.tupOf (M.cons (M.bin opIx (M.bin opIx (M.var 2) (M.cst (.int 0))) (M.cst (.int 0))) (M.cons (M.tupOf M.nil) (M.cons (M.tupOf (M.cons (M.tupOf M.nil) (M.cons (M.tupOf M.nil) M.nil))) M.nil)))))
  (MS.ret (M.blt opAll (M.cons (M.lc [5, 6, 7] (.t [(.n 5), (.n 6), (.n 7)]) (M.seq (M.bin opAdd (M.bin opAdd (M.var 2) (M.lstOf (M.cons (M.var 4) M.nil))) (M.slice (M.var 2) M.no (M.toI (M.cst (.int 1)))))) M.yes (M.call f_law_right (M.cons (M.var 5) (M.cons (M.var 6) (M.cons (M.var 7) M.nil))))) M.nil)))))))
def f_law : Fn := (Fn.of 8 m_law).nox
end
end T
namespace T
open PySem PySem.Spec PyProof.Rows L2 Z
structure Zs (mg : Str → Option Value) : Prop where
  all : mg "all" = none
  bool : mg "bool" = none
  enumerate : mg "enumerate" = none
  int : mg "int" = none
  isinstance : mg "isinstance" = none
  len : mg "len" = none
  list : mg "list" = none
  range : mg "range" = none
  set : mg "set" = none
  sorted : mg "sorted" = none
  str : mg "str" = none
  tuple : mg "tuple" = none
theorem sc_law_flow : FnScope ["_law_script"] ["_law_script"] (defScope s_law_flow) := ⟨rfl, rfl, rfl, by decide +kernel, rfl, by decide +kernel, by decide +kernel⟩
theorem sc_law_pick : FnScope ["_law_flow_here", "_law_many", "_law_cell", "_law_digit"] ["_law_flow_here", "_law_many"] (defScope s_law_pick) := ⟨rfl, rfl, rfl, by decide +kernel, rfl, by decide +kernel, by decide +kernel⟩
theorem sc_law_step_text : FnScope ["_law_step"] ["_law_step"] (defScope s_law_step_text) := ⟨rfl, rfl, rfl, by decide +kernel, rfl, by decide +kernel, by decide +kernel⟩
theorem sc_law_road_text : FnScope ["_law_road", "_law_step"] ["_law_road"] (defScope s_law_road_text) := ⟨rfl, rfl, rfl, by decide +kernel, rfl, by decide +kernel, by decide +kernel⟩
theorem sc_law_flow_text : FnScope ["_law_entries", "_law_words", "_law_one", "_law_other", "_law_many"] ["_law_entries"] (defScope s_law_flow_text) := ⟨rfl, rfl, rfl, by decide +kernel, rfl, by decide +kernel, by decide +kernel⟩
theorem sc_law_paper_text : FnScope ["_law_paper", "_law_rows", "_law_change", "_law_entries"] ["_law_paper"] (defScope s_law_paper_text) := ⟨rfl, rfl, rfl, by decide +kernel, rfl, by decide +kernel, by decide +kernel⟩
theorem sc_law_alike : FnScope ["_law_found", "_law_due", "_law_k"] ["_law_found", "_law_due"] (defScope s_law_alike) := ⟨rfl, rfl, rfl, by decide +kernel, rfl, by decide +kernel, by decide +kernel⟩
theorem sc_change_text : FnScope ["letter", "side"] ["letter", "side"] (defScope s_change_text) := ⟨rfl, rfl, rfl, by decide +kernel, rfl, by decide +kernel, by decide +kernel⟩
theorem sc_flow_text : FnScope ["flow", "words", "one", "other", "many"] ["flow"] (defScope s_flow_text) := ⟨rfl, rfl, rfl, by decide +kernel, rfl, by decide +kernel, by decide +kernel⟩
theorem sc_show_paper : FnScope ["paper", "rows", "letter", "side", "flow"] ["paper"] (defScope s_show_paper) := ⟨rfl, rfl, rfl, by decide +kernel, rfl, by decide +kernel, by decide +kernel⟩
theorem sc_rows_of : FnScope ["text", "row"] ["text"] (defScope s_rows_of) := ⟨rfl, rfl, rfl, by decide +kernel, rfl, by decide +kernel, by decide +kernel⟩
theorem sc_letters_of : FnScope ["n"] ["n"] (defScope s_letters_of) := ⟨rfl, rfl, rfl, by decide +kernel, rfl, by decide +kernel, by decide +kernel⟩
theorem sc_is_number : FnScope ["word", "sign"] ["word"] (defScope s_is_number) := ⟨rfl, rfl, rfl, by decide +kernel, rfl, by decide +kernel, by decide +kernel⟩
theorem sc_read_entry : FnScope ["n", "words", "letters"] ["n", "words"] (defScope s_read_entry) := ⟨rfl, rfl, rfl, by decide +kernel, rfl, by decide +kernel, by decide +kernel⟩
theorem sc_read_flow : FnScope ["n", "words", "found", "k"] ["n", "words"] (defScope s_read_flow) := ⟨rfl, rfl, rfl, by decide +kernel, rfl, by decide +kernel, by decide +kernel⟩
theorem sc_letters_of__t : FnScope ["n"] ["n"] (defScope s_letters_of__t) := ⟨rfl, rfl, rfl, by decide +kernel, rfl, by decide +kernel, by decide +kernel⟩
theorem sc_contrary : FnScope ["letter"] ["letter"] (defScope s_contrary) := ⟨rfl, rfl, rfl, by decide +kernel, rfl, by decide +kernel, by decide +kernel⟩
theorem sc_is_side : FnScope ["n", "letter", "side", "letters", "places", "one"] ["n", "letter", "side"] (defScope s_is_side) := ⟨rfl, rfl, rfl, by decide +kernel, rfl, by decide +kernel, by decide +kernel⟩
theorem sc_is_change : FnScope ["n", "change"] ["n", "change"] (defScope s_is_change) := ⟨rfl, rfl, rfl, by decide +kernel, rfl, by decide +kernel, by decide +kernel⟩
theorem sc_look_change : FnScope ["n", "change"] ["n", "change"] (defScope s_look_change) := ⟨rfl, rfl, rfl, by decide +kernel, rfl, by decide +kernel, by decide +kernel⟩
theorem sc_read_change : FnScope ["n", "words", "change"] ["n", "words"] (defScope s_read_change) := ⟨rfl, rfl, rfl, by decide +kernel, rfl, by decide +kernel, by decide +kernel⟩
theorem sc_read_paper : FnScope ["n", "text", "changes", "flows", "k", "words", "change", "flow"] ["n", "text"] (defScope s_read_paper) := ⟨rfl, rfl, rfl, by decide +kernel, rfl, by decide +kernel, by decide +kernel⟩
theorem sc_step_text : FnScope ["step"] ["step"] (defScope s_step_text) := ⟨rfl, rfl, rfl, by decide +kernel, rfl, by decide +kernel, by decide +kernel⟩
theorem sc_show_road : FnScope ["road", "step"] ["road"] (defScope s_show_road) := ⟨rfl, rfl, rfl, by decide +kernel, rfl, by decide +kernel, by decide +kernel⟩
theorem sc_read_exchange : FnScope ["n", "words", "letters", "word"] ["n", "words"] (defScope s_read_exchange) := ⟨rfl, rfl, rfl, by decide +kernel, rfl, by decide +kernel, by decide +kernel⟩
theorem sc_read_step : FnScope ["n", "words", "change", "letters"] ["n", "words"] (defScope s_read_step) := ⟨rfl, rfl, rfl, by decide +kernel, rfl, by decide +kernel, by decide +kernel⟩
theorem sc_read_road : FnScope ["n", "text", "steps", "words"] ["n", "text"] (defScope s_read_road) := ⟨rfl, rfl, rfl, by decide +kernel, rfl, by decide +kernel, by decide +kernel⟩
theorem sc_law_right : FnScope ["_law_n", "_law_road", "_law_paper", "_law_text"] ["_law_n", "_law_road", "_law_paper"] (defScope s_law_right) := ⟨rfl, rfl, rfl, by decide +kernel, rfl, by decide +kernel, by decide +kernel⟩
theorem sc_law_letters : FnScope ["_law_n"] ["_law_n"] (defScope s_law_letters) := ⟨rfl, rfl, rfl, by decide +kernel, rfl, by decide +kernel, by decide +kernel⟩
theorem sc_law_contrary : FnScope ["_law_letter"] ["_law_letter"] (defScope s_law_contrary) := ⟨rfl, rfl, rfl, by decide +kernel, rfl, by decide +kernel, by decide +kernel⟩
theorem sc_law_drawn_change : FnScope ["_law_flow_here", "_law_n", "_law_letter", "_law_side", "_law_other"] ["_law_flow_here", "_law_n"] (defScope s_law_drawn_change) := ⟨rfl, rfl, rfl, by decide +kernel, rfl, by decide +kernel, by decide +kernel⟩
theorem sc_law_exchange : FnScope ["_law_flow_here", "_law_n", "_law_left", "_law_found", "_law_k", "_law_letter"] ["_law_flow_here", "_law_n"] (defScope s_law_exchange) := ⟨rfl, rfl, rfl, by decide +kernel, rfl, by decide +kernel, by decide +kernel⟩
theorem sc_law_drawn_step : FnScope ["_law_flow_here", "_law_n"] ["_law_flow_here", "_law_n"] (defScope s_law_drawn_step) := ⟨rfl, rfl, rfl, by decide +kernel, rfl, by decide +kernel, by decide +kernel⟩
theorem sc_law_drawn_road : FnScope ["_law_flow_here", "_law_n", "_law_k"] ["_law_flow_here", "_law_n"] (defScope s_law_drawn_road) := ⟨rfl, rfl, rfl, by decide +kernel, rfl, by decide +kernel, by decide +kernel⟩
theorem sc_law_drawn_entry : FnScope ["_law_flow_here", "_law_n", "_law_one", "_law_other", "_law_k"] ["_law_flow_here", "_law_n"] (defScope s_law_drawn_entry) := ⟨rfl, rfl, rfl, by decide +kernel, rfl, by decide +kernel, by decide +kernel⟩
theorem sc_law_drawn_paper : FnScope ["_law_flow_here", "_law_n", "_law_many", "_law_changes", "_law_flows", "_law_k", "_law_j"] ["_law_flow_here", "_law_n"] (defScope s_law_drawn_paper) := ⟨rfl, rfl, rfl, by decide +kernel, rfl, by decide +kernel, by decide +kernel⟩
theorem sc_law : FnScope ["_law_script", "_law_flow_here", "_law_some", "_law_k", "_law_bare", "_law_n", "_law_road", "_law_paper"] ["_law_script"] (defScope s_law) := ⟨rfl, rfl, rfl, by decide +kernel, rfl, by decide +kernel, by decide +kernel⟩
section
variable {P : Program} {w : World} {K K' : PySem.W.Frag} {mg : Str → Option Value} {base h : Heap}
theorem d_law_flow (z : Zs mg) {fa : Addr} {fd : FuncData} (F : FunD K "_law_flow" "_law_flow" (defArgs s_law_flow) (defBody s_law_flow) (defScope s_law_flow) [] [] fa fd) (hm : mg "_law_flow" = some (.ref fa)) : Df P w K mg base 1 "_law_flow" ["_law_script"] f_law_flow := by
  refine df_mk (k := 0) (N := ["_law_script"]) F sc_law_flow hm (fun _ _ _ _ _ _ us hl => match us, hl with | [_], _ => rfl) fun cdv A outer s H E hr => ?_
  have hu64 := hr.units
  have hu65 : (A.deeper (PyProof.Rows.envOfC "_law_flow" (defScope s_law_flow) s.heap.objs.size fa cdv)).units + 65 < cLine := by have := hr.un; omega
  exact (bm_one (sm_ret (em_lst (am_cons (em_bty (bf_list rfl) z.list (by decide +kernel) (am_cons (em_var 0) am_nil)) (am_cons (em_int) (am_cons (em_int) (am_cons (em_int) (am_cons (em_int) am_nil))))))))
theorem d_law_pick (z : Zs mg) {fa : Addr} {fd : FuncData} (F : FunD K "_law_pick" "_law_pick" (defArgs s_law_pick) (defBody s_law_pick) (defScope s_law_pick) [] [] fa fd) (hm : mg "_law_pick" = some (.ref fa)) : Df P w K mg base 1 "_law_pick" ["_law_flow_here", "_law_many"] f_law_pick := by
  refine df_mk (k := 0) (N := ["_law_flow_here", "_law_many", "_law_cell", "_law_digit"]) F sc_law_pick hm (fun _ _ _ _ _ _ us hl => match us, hl with | [_, _], _ => rfl) fun cdv A outer s H E hr => ?_
  have hu64 := hr.units
  have hu65 : (A.deeper (PyProof.Rows.envOfC "_law_pick" (defScope s_law_pick) s.heap.objs.size fa cdv)).units + 65 < cLine := by have := hr.un; omega
  exact (bm_cons (sm_if (tm_of (wm_and (tm_co (bo_eq hu64) (em_bi (bi_ix hu64) (em_var 0) (em_int)) (em_int)) (wm_and1 (tm_co (bo_ltA hu64) (em_bi (bi_ix hu64) (em_var 0) (em_int)) (em_blt bf_len z.len (by decide +kernel) (am_cons (em_bi (bi_ix hu64) (em_var 0) (em_int)) am_nil))))))
   (bm_cons (sm_asg (i := 2) sc_law_pick.nd (em_bi (bi_ix hu64) (em_bi (bi_ix hu64) (em_var 0) (em_int)) (em_bi (bi_ix hu64) (em_var 0) (em_int))))
   (bm_cons (sm_setIx hu64 (em_bo bo_add (em_bi (bi_ix hu64) (em_var 0) (em_int)) (em_int)) (em_var 0) (em_int))
   (bm_one (sm_if (tm_co bo_ge (em_var 2) (em_bo bo_pow (em_int) (em_int)))
    (bm_one (sm_setIx hu64 (em_var 2) (em_var 0) (em_int)))
    (bm_one (sm_setIx hu64 (em_bo bo_mod (em_bo bo_add (em_bo bo_add (em_bo bo_mul (em_bi (bi_ix hu64) (em_var 0) (em_int)) (em_int)) (em_bo bo_mod (em_var 2) (em_int))) (em_int)) (em_int)) (em_var 0) (em_int)))))))
   bm_nil)
  (bm_cons (sm_if (tm_co bo_gt (em_bi (bi_ix hu64) (em_var 0) (em_int)) (em_int))
   (bm_cons (sm_asg (i := 3) sc_law_pick.nd (em_bo bo_mod (em_bi (bi_ix hu64) (em_var 0) (em_int)) (em_var 1)))
   (bm_cons (sm_setIx hu64 (em_bo bo_fdiv (em_bi (bi_ix hu64) (em_var 0) (em_int)) (em_var 1)) (em_var 0) (em_int))
   (bm_one (sm_ret (em_var 3)))))
   bm_nil)
  (bm_cons (sm_setIx hu64 (em_bo bo_add (em_bi (bi_ix hu64) (em_var 0) (em_int)) (em_int)) (em_var 0) (em_int))
  (bm_cons (sm_setIx hu64 (em_bo bo_mod (em_bo bo_add (em_bo bo_add (em_bo bo_mul (em_bi (bi_ix hu64) (em_var 0) (em_int)) (em_int)) (em_int)) (em_bi (bi_ix hu64) (em_var 0) (em_int))) (em_int)) (em_var 0) (em_int))
  (bm_one (sm_ret (em_bo bo_mod (em_bo bo_fdiv (em_bo bo_mod (em_bo bo_mul (em_bo bo_add (em_bo bo_mod (em_bi (bi_ix hu64) (em_var 0) (em_int)) (em_int)) (em_int)) (em_bo bo_add (em_bo bo_fdiv (em_bi (bi_ix hu64) (em_var 0) (em_int)) (em_int)) (em_int))) (em_int)) (em_int)) (em_var 1))))))))
theorem d_law_step_text (z : Zs mg) {fa : Addr} {fd : FuncData} (F : FunD K "_law_step_text" "_law_step_text" (defArgs s_law_step_text) (defBody s_law_step_text) (defScope s_law_step_text) [] [] fa fd) (hm : mg "_law_step_text" = some (.ref fa)) : Df P w K mg base 1 "_law_step_text" ["_law_step"] f_law_step_text := by
  refine df_mk (k := 0) (N := ["_law_step"]) F sc_law_step_text hm (fun _ _ _ _ _ _ us hl => match us, hl with | [_], _ => rfl) fun cdv A outer s H E hr => ?_
  have hu64 := hr.units
  have hu65 : (A.deeper (PyProof.Rows.envOfC "_law_step_text" (defScope s_law_step_text) s.heap.objs.size fa cdv)).units + 65 < cLine := by have := hr.un; omega
  exact (bm_cons (sm_if (tm_co (bo_eq hu64) (em_bi (bi_ix hu64) (em_var 0) (em_int)) (em_str))
   (bm_one (sm_ret (em_m mo_join PySem.F.plainAttrs_str PySem.F.slot_str_join PySem.F.type_str_join (em_str) (am_cons (em_bo bo_add (em_tup (am_cons (em_str) am_nil)) (em_bi (bi_ix hu64) (em_var 0) (em_int))) am_nil))))
   bm_nil)
  (bm_one (sm_ret (em_m mo_join PySem.F.plainAttrs_str PySem.F.slot_str_join PySem.F.type_str_join (em_str) (am_cons (em_bo bo_add (em_tup (am_cons (em_str) (am_cons (em_bi (bi_ix hu64) (em_var 0) (em_int)) (am_cons (em_str) am_nil)))) (em_bi (bi_ix hu64) (em_var 0) (em_int))) am_nil)))))
theorem d_law_road_text (z : Zs mg) (d_law_step_text : Df P w  K mg base 1 "_law_step_text" ["_law_step"] f_law_step_text) {fa : Addr} {fd : FuncData} (F : FunD K "_law_road_text" "_law_road_text" (defArgs s_law_road_text) (defBody s_law_road_text) (defScope s_law_road_text) [] [] fa fd) (hm : mg "_law_road_text" = some (.ref fa)) : Df P w K mg base 2 "_law_road_text" ["_law_road"] f_law_road_text := by
  refine df_mk (k := 1) (N := ["_law_road", "_law_step"]) F sc_law_road_text hm (fun _ _ _ _ _ _ us hl => match us, hl with | [_], _ => rfl) fun cdv A outer s H E hr => ?_
  have hu64 := hr.units
  have hu65 : (A.deeper (PyProof.Rows.envOfC "_law_road_text" (defScope s_law_road_text) s.heap.objs.size fa cdv)).units + 65 < cLine := by have := hr.un; omega
  exact (bm_one (sm_ret (em_m mo_join PySem.F.plainAttrs_str PySem.F.slot_str_join PySem.F.type_str_join (em_str) (am_cons (em_lc [(Str.ofString "_law_step", 1)] (.n 1) sc_law_road_text.nd (im_seq (em_var 0)) (by kernel_rfl) (fun _ _ _ _ _ => (tg_name 1 sc_law_road_text.nd)) (fun _ _ _ _ _ => tl_nil) (fun _ _ _ _ _ => (em_def d_law_step_text hr (by decide) (am_cons (em_var 1) am_nil) (cons_len nil_len)))) am_nil))))
theorem d_law_flow_text (z : Zs mg) {fa : Addr} {fd : FuncData} (F : FunD K "_law_flow_text" "_law_flow_text" (defArgs s_law_flow_text) (defBody s_law_flow_text) (defScope s_law_flow_text) [] [] fa fd) (hm : mg "_law_flow_text" = some (.ref fa)) : Df P w K mg base 1 "_law_flow_text" ["_law_entries"] f_law_flow_text := by
  refine df_mk (k := 0) (N := ["_law_entries", "_law_words", "_law_one", "_law_other", "_law_many"]) F sc_law_flow_text hm (fun _ _ _ _ _ _ us hl => match us, hl with | [_], _ => rfl) fun cdv A outer s H E hr => ?_
  have hu64 := hr.units
  have hu65 : (A.deeper (PyProof.Rows.envOfC "_law_flow_text" (defScope s_law_flow_text) s.heap.objs.size fa cdv)).units + 65 < cLine := by have := hr.un; omega
  exact (bm_cons (sm_asg (i := 1) sc_law_flow_text.nd (em_lst (am_cons (em_str) am_nil)))
  (bm_cons (sm_for PassesOwn.never (im_seq (em_var 0)) (tg_tup rfl (tg_cons (tg_name 2 sc_law_flow_text.nd) (tg_cons (tg_name 3 sc_law_flow_text.nd) (tg_cons (tg_name 4 sc_law_flow_text.nd) tg_nil))))
   (bm_one (sm_expr (em_mut mu_append PySem.F.slot_list_append PySem.F.type_list_append (em_var 1) (am_cons (em_bo bo_add (em_bo bo_add (em_bo bo_add (em_bo bo_add (em_var 2) (em_str)) (em_var 3)) (em_str)) (em_bty bf_strI z.str (by decide +kernel) (am_cons (em_var 4) am_nil))) am_nil)))))
  (bm_one (sm_ret (em_m mo_join PySem.F.plainAttrs_str PySem.F.slot_str_join PySem.F.type_str_join (em_str) (am_cons (em_var 1) am_nil))))))
theorem d_law_paper_text (z : Zs mg) (d_law_flow_text : Df P w  K mg base 1 "_law_flow_text" ["_law_entries"] f_law_flow_text) (d_law_step_text : Df P w  K mg base 1 "_law_step_text" ["_law_step"] f_law_step_text) {fa : Addr} {fd : FuncData} (F : FunD K "_law_paper_text" "_law_paper_text" (defArgs s_law_paper_text) (defBody s_law_paper_text) (defScope s_law_paper_text) [] [] fa fd) (hm : mg "_law_paper_text" = some (.ref fa)) : Df P w K mg base 2 "_law_paper_text" ["_law_paper"] f_law_paper_text := by
  refine df_mk (k := 1) (N := ["_law_paper", "_law_rows", "_law_change", "_law_entries"]) F sc_law_paper_text hm (fun _ _ _ _ _ _ us hl => match us, hl with | [_], _ => rfl) fun cdv A outer s H E hr => ?_
  have hu64 := hr.units
  have hu65 : (A.deeper (PyProof.Rows.envOfC "_law_paper_text" (defScope s_law_paper_text) s.heap.objs.size fa cdv)).units + 65 < cLine := by have := hr.un; omega
  exact (bm_cons (sm_setLc [(Str.ofString "_law_change", 2)] (.n 2) sc_law_paper_text.nd (im_seq (em_bi (bi_ix hu64) (em_var 0) (em_int))) (by kernel_rfl) (fun _ _ _ _ _ => (tg_name 2 sc_law_paper_text.nd)) (fun _ _ _ _ _ => tl_nil) (fun _ _ _ _ _ => (em_def d_law_step_text hr (by decide) (am_cons (em_bo bo_add (em_tup (am_cons (em_str) am_nil)) (em_var 2)) am_nil) (cons_len nil_len))) (sw_true rfl rfl rfl (by decide +kernel)))
  (bm_one (sm_ret (em_m mo_join PySem.F.plainAttrs_str PySem.F.slot_str_join PySem.F.type_str_join (em_str) (am_cons (em_bo bo_add (em_var 1) (em_lc [(Str.ofString "_law_entries", 3)] (.n 3) sc_law_paper_text.nd (im_seq (em_bi (bi_ix hu64) (em_var 0) (em_int))) (by kernel_rfl) (fun _ _ _ _ _ => (tg_name 3 sc_law_paper_text.nd)) (fun _ _ _ _ _ => tl_nil) (fun _ _ _ _ _ => (em_def d_law_flow_text hr (by decide) (am_cons (em_var 3) am_nil) (cons_len nil_len))))) am_nil)))))
theorem d_law_alike (z : Zs mg) {fa : Addr} {fd : FuncData} (F : FunD K "_law_alike" "_law_alike" (defArgs s_law_alike) (defBody s_law_alike) (defScope s_law_alike) [] [] fa fd) (hm : mg "_law_alike" = some (.ref fa)) : ∀ n, Df P w K mg base (1 + n) "_law_alike" ["_law_found", "_law_due"] (f_law_alike n)
  | 0 => df_no F hm (fun _ _ _ _ _ _ us hl => match us, hl with | [_, _], _ => rfl)
  | n + 1 => by
    have d_self := d_law_alike z  F hm n
    refine df_mk (N := ["_law_found", "_law_due", "_law_k"]) F sc_law_alike hm (fun _ _ _ _ _ _ us hl => match us, hl with | [_, _], _ => rfl) fun cdv A outer s H E hr => ?_
    have hu64 := hr.units
    have hu65 : (A.deeper (PyProof.Rows.envOfC "_law_alike" (defScope s_law_alike) s.heap.objs.size fa cdv)).units + 65 < cLine := by have := hr.un; omega
    exact (bm_cons (sm_if (tm_val (em_isi2 (by decide +kernel) (by decide +kernel) (em_var 1) (pe_bltn (by rfl) z.list (by decide +kernel) rfl) (pe_bltn (by rfl) z.tuple (by decide +kernel) rfl) z.isinstance))
   (bm_cons (sm_if (tm_co (bo_ne hu64) (em_isi (by decide +kernel) (em_var 0) (pe_bltn (by rfl) z.list (by decide +kernel) rfl) z.isinstance) (em_isi (by decide +kernel) (em_var 1) (pe_bltn (by rfl) z.list (by decide +kernel) rfl) z.isinstance))
    (bm_one (sm_ret (em_bl)))
    bm_nil)
   (bm_cons (sm_if (tm_co (bo_ne hu64) (em_isi (by decide +kernel) (em_var 0) (pe_bltn (by rfl) z.tuple (by decide +kernel) rfl) z.isinstance) (em_isi (by decide +kernel) (em_var 1) (pe_bltn (by rfl) z.tuple (by decide +kernel) rfl) z.isinstance))
    (bm_one (sm_ret (em_bl)))
    bm_nil)
   (bm_one (sm_ret ((em_andV (em_co (bo_eq hu64) (em_blt bf_len z.len (by decide +kernel) (am_cons (em_var 0) am_nil)) (em_blt bf_len z.len (by decide +kernel) (am_cons (em_var 1) am_nil))) (em_oneV (em_blt (bf_all rfl) z.all (by decide +kernel) (am_cons (em_lc [(Str.ofString "_law_k", 2)] (.n 2) sc_law_alike.nd (im_rng1 z.range (am_cons (em_blt bf_len z.len (by decide +kernel) (am_cons (em_var 1) am_nil)) am_nil)) (by kernel_rfl) (fun _ _ _ _ _ => (tg_name 2 sc_law_alike.nd)) (fun _ _ _ _ _ => tl_nil) (fun _ _ _ _ _ => (em_def d_self hr (Nat.le_refl _) (am_cons (em_bi (bi_ix hu64) (em_var 0) (em_var 2)) (am_cons (em_bi (bi_ix hu64) (em_var 1) (em_var 2)) am_nil)) (cons_len (cons_len nil_len))))) am_nil)))))))))
   bm_nil)
  (bm_one (sm_ret ((em_andV (em_co (bo_eq hu64) (em_isi (by decide +kernel) (em_var 0) (pe_bltn (by rfl) z.bool (by decide +kernel) rfl) z.isinstance) (em_isi (by decide +kernel) (em_var 1) (pe_bltn (by rfl) z.bool (by decide +kernel) rfl) z.isinstance)) (em_oneV (em_co (bo_eq hu64) (em_var 0) (em_var 1))))))))
theorem d_change_text (z : Zs mg) {fa : Addr} {fd : FuncData} (F : FunD K "change_text" "change_text" (defArgs s_change_text) (defBody s_change_text) (defScope s_change_text) [] [] fa fd) (hm : mg "change_text" = some (.ref fa)) : Df P w K mg base 1 "change_text" ["letter", "side"] f_change_text := by
  refine df_mk (k := 0) (N := ["letter", "side"]) F sc_change_text hm (fun _ _ _ _ _ _ us hl => match us, hl with | [_, _], _ => rfl) fun cdv A outer s H E hr => ?_
  have hu64 := hr.units
  have hu65 : (A.deeper (PyProof.Rows.envOfC "change_text" (defScope s_change_text) s.heap.objs.size fa cdv)).units + 65 < cLine := by have := hr.un; omega
  exact (bm_one (sm_ret (em_m mo_join PySem.F.plainAttrs_str PySem.F.slot_str_join PySem.F.type_str_join (em_str) (am_cons (em_bo bo_add (em_lst (am_cons (em_str) (am_cons (em_var 0) (am_cons (em_str) am_nil)))) (em_bty (bf_list rfl) z.list (by decide +kernel) (am_cons (em_var 1) am_nil))) am_nil))))
theorem d_flow_text (z : Zs mg) {fa : Addr} {fd : FuncData} (F : FunD K "flow_text" "flow_text" (defArgs s_flow_text) (defBody s_flow_text) (defScope s_flow_text) [] [] fa fd) (hm : mg "flow_text" = some (.ref fa)) : Df P w K mg base 1 "flow_text" ["flow"] f_flow_text := by
  refine df_mk (k := 0) (N := ["flow", "words", "one", "other", "many"]) F sc_flow_text hm (fun _ _ _ _ _ _ us hl => match us, hl with | [_], _ => rfl) fun cdv A outer s H E hr => ?_
  have hu64 := hr.units
  have hu65 : (A.deeper (PyProof.Rows.envOfC "flow_text" (defScope s_flow_text) s.heap.objs.size fa cdv)).units + 65 < cLine := by have := hr.un; omega
  exact (bm_cons (sm_asg (i := 1) sc_flow_text.nd (em_lst (am_cons (em_str) (am_cons (em_str) am_nil))))
  (bm_cons (sm_for PassesOwn.never (im_seq (em_var 0)) (tg_tup rfl (tg_cons (tg_name 2 sc_flow_text.nd) (tg_cons (tg_name 3 sc_flow_text.nd) (tg_cons (tg_name 4 sc_flow_text.nd) tg_nil))))
   (bm_one (sm_asg (i := 1) sc_flow_text.nd (em_bo bo_add (em_var 1) (em_lst (am_cons (em_var 2) (am_cons (em_var 3) (am_cons (em_bty bf_strI z.str (by decide +kernel) (am_cons (em_var 4) am_nil)) am_nil))))))))
  (bm_one (sm_ret (em_m mo_join PySem.F.plainAttrs_str PySem.F.slot_str_join PySem.F.type_str_join (em_str) (am_cons (em_var 1) am_nil))))))
theorem d_show_paper (z : Zs mg) (d_change_text : Df P w  K mg base 1 "change_text" ["letter", "side"] f_change_text) (d_flow_text : Df P w  K mg base 1 "flow_text" ["flow"] f_flow_text) {fa : Addr} {fd : FuncData} (F : FunD K "show_paper" "show_paper" (defArgs s_show_paper) (defBody s_show_paper) (defScope s_show_paper) [] [] fa fd) (hm : mg "show_paper" = some (.ref fa)) : Df P w K mg base 2 "show_paper" ["paper"] f_show_paper := by
  refine df_mk (k := 1) (N := ["paper", "rows", "letter", "side", "flow"]) F sc_show_paper hm (fun _ _ _ _ _ _ us hl => match us, hl with | [_], _ => rfl) fun cdv A outer s H E hr => ?_
  have hu64 := hr.units
  have hu65 : (A.deeper (PyProof.Rows.envOfC "show_paper" (defScope s_show_paper) s.heap.objs.size fa cdv)).units + 65 < cLine := by have := hr.un; omega
  exact (bm_cons (sm_setLc [(Str.ofString "letter", 2), (Str.ofString "side", 3)] (.t [(.n 2), (.n 3)]) sc_show_paper.nd (im_seq (em_bi (bi_ix hu64) (em_var 0) (em_int))) (by kernel_rfl) (fun _ _ _ _ _ => (tg_tup rfl (tg_cons (tg_name 2 sc_show_paper.nd) (tg_cons (tg_name 3 sc_show_paper.nd) tg_nil)))) (fun _ _ _ _ _ => tl_nil) (fun _ _ _ _ _ => (em_def d_change_text hr (by decide) (am_cons (em_var 2) (am_cons (em_var 3) am_nil)) (cons_len (cons_len nil_len)))) (sw_true rfl rfl rfl (by decide +kernel)))
  (bm_one (sm_ret (em_m mo_join PySem.F.plainAttrs_str PySem.F.slot_str_join PySem.F.type_str_join (em_str) (am_cons (em_bo bo_add (em_var 1) (em_lc [(Str.ofString "flow", 4)] (.n 4) sc_show_paper.nd (im_seq (em_bi (bi_ix hu64) (em_var 0) (em_int))) (by kernel_rfl) (fun _ _ _ _ _ => (tg_name 4 sc_show_paper.nd)) (fun _ _ _ _ _ => tl_nil) (fun _ _ _ _ _ => (em_def d_flow_text hr (by decide) (am_cons (em_var 4) am_nil) (cons_len nil_len))))) am_nil)))))
theorem d_rows_of (z : Zs mg) {fa : Addr} {fd : FuncData} (F : FunD K "rows_of" "rows_of" (defArgs s_rows_of) (defBody s_rows_of) (defScope s_rows_of) [] [] fa fd) (hm : mg "rows_of" = some (.ref fa)) : Df P w K mg base 1 "rows_of" ["text"] f_rows_of := by
  refine df_mk (k := 0) (N := ["text", "row"]) F sc_rows_of hm (fun _ _ _ _ _ _ us hl => match us, hl with | [_], _ => rfl) fun cdv A outer s H E hr => ?_
  have hu64 := hr.units
  have hu65 : (A.deeper (PyProof.Rows.envOfC "rows_of" (defScope s_rows_of) s.heap.objs.size fa cdv)).units + 65 < cLine := by have := hr.un; omega
  exact (bm_cons (sm_if (tm_co (bo_eq hu64) (em_var 0) (em_str))
   (bm_one (sm_ret (em_lst am_nil)))
   bm_nil)
  (bm_one (sm_ret (em_lc [(Str.ofString "row", 1)] (.n 1) sc_rows_of.nd (im_seq (em_m mo_split PySem.F.plainAttrs_str PySem.F.slot_str_split PySem.F.type_str_split (em_var 0) (am_cons (em_str) am_nil))) (by kernel_rfl) (fun _ _ _ _ _ => (tg_name 1 sc_rows_of.nd)) (fun _ _ _ _ _ => tl_nil) (fun _ _ _ _ _ => (em_m mo_split PySem.F.plainAttrs_str PySem.F.slot_str_split PySem.F.type_str_split (em_var 1) (am_cons (em_str) am_nil)))))))
theorem d_letters_of (z : Zs mg) {t_ALL_LETTERS : Tok} (c_ALL_LETTERS : mg "ALL_LETTERS" = some (.str "aAbBcCdD" t_ALL_LETTERS)) {fa : Addr} {fd : FuncData} (F : FunD K "letters_of" "letters_of" (defArgs s_letters_of) (defBody s_letters_of) (defScope s_letters_of) [] [] fa fd) (hm : mg "letters_of" = some (.ref fa)) : Df P w K mg base 1 "letters_of" ["n"] f_letters_of := by
  refine df_mk (k := 0) (N := ["n"]) F sc_letters_of hm (fun _ _ _ _ _ _ us hl => match us, hl with | [_], _ => rfl) fun cdv A outer s H E hr => ?_
  have hu64 := hr.units
  have hu65 : (A.deeper (PyProof.Rows.envOfC "letters_of" (defScope s_letters_of) s.heap.objs.size fa cdv)).units + 65 < cLine := by have := hr.un; omega
  exact (bm_one (sm_ret (em_bty (bf_tuple rfl) z.tuple (by decide +kernel) (am_cons (em_slice (em_glob (v := .str "aAbBcCdD") rfl c_ALL_LETTERS ⟨_, rfl⟩ (fun F => by simp only [Rp]; rfl)) om_none (om_some (em_bo bo_mul (em_int) (em_var 0)))) am_nil))))
theorem d_is_number (z : Zs mg) {fa : Addr} {fd : FuncData} (F : FunD K "is_number" "is_number" (defArgs s_is_number) (defBody s_is_number) (defScope s_is_number) [] [] fa fd) (hm : mg "is_number" = some (.ref fa)) : Df P w K mg base 1 "is_number" ["word"] f_is_number := by
  refine df_mk (k := 0) (N := ["word", "sign"]) F sc_is_number hm (fun _ _ _ _ _ _ us hl => match us, hl with | [_], _ => rfl) fun cdv A outer s H E hr => ?_
  have hu64 := hr.units
  have hu65 : (A.deeper (PyProof.Rows.envOfC "is_number" (defScope s_is_number) s.heap.objs.size fa cdv)).units + 65 < cLine := by have := hr.un; omega
  exact (bm_one (sm_ret ((em_andV (em_chain bo_le bo_le (em_int) (em_blt bf_len z.len (by decide +kernel) (am_cons (em_var 0) am_nil)) (em_int)) (em_andV (em_co (bo_ne hu64) (em_bi (bi_ix hu64) (em_var 0) (em_int)) (em_str)) (em_oneV (em_blt (bf_all rfl) z.all (by decide +kernel) (am_cons (em_lc [(Str.ofString "sign", 1)] (.n 1) sc_is_number.nd (im_seq (em_var 0)) (by kernel_rfl) (fun _ _ _ _ _ => (tg_name 1 sc_is_number.nd)) (fun _ _ _ _ _ => tl_nil) (fun _ _ _ _ _ => (em_chain bo_le bo_le (em_str) (em_var 1) (em_str)))) am_nil))))))))
theorem d_read_entry (z : Zs mg) (d_is_number : Df P w  K mg base 1 "is_number" ["word"] f_is_number) (d_letters_of : Df P w  K mg base 1 "letters_of" ["n"] f_letters_of) {fa : Addr} {fd : FuncData} (F : FunD K "read_entry" "read_entry" (defArgs s_read_entry) (defBody s_read_entry) (defScope s_read_entry) [] [] fa fd) (hm : mg "read_entry" = some (.ref fa)) : Df P w K mg base 2 "read_entry" ["n", "words"] f_read_entry := by
  refine df_mk (k := 1) (N := ["n", "words", "letters"]) F sc_read_entry hm (fun _ _ _ _ _ _ us hl => match us, hl with | [_, _], _ => rfl) fun cdv A outer s H E hr => ?_
  have hu64 := hr.units
  have hu65 : (A.deeper (PyProof.Rows.envOfC "read_entry" (defScope s_read_entry) s.heap.objs.size fa cdv)).units + 65 < cLine := by have := hr.un; omega
  exact (bm_cons (sm_asg (i := 2) sc_read_entry.nd (em_def d_letters_of hr (by decide) (am_cons (em_var 0) am_nil) (cons_len nil_len)))
  (bm_cons (sm_if (tm_of (wm_or (tm_co (bo_notIn hu65) (em_bi (bi_ix hu64) (em_var 1) (em_int)) (em_var 2)) (wm_or (tm_co (bo_notIn hu65) (em_bi (bi_ix hu64) (em_var 1) (em_int)) (em_var 2)) (wm_or1 (tm_not (tm_val (em_def d_is_number hr (by decide) (am_cons (em_bi (bi_ix hu64) (em_var 1) (em_int)) am_nil) (cons_len nil_len))))))))
   (bm_one (sm_ret (em_non)))
   bm_nil)
  (bm_one (sm_ret (em_tup (am_cons (em_bi (bi_ix hu64) (em_var 1) (em_int)) (am_cons (em_bi (bi_ix hu64) (em_var 1) (em_int)) (am_cons (em_bty bf_intS z.int (by decide +kernel) (am_cons (em_bi (bi_ix hu64) (em_var 1) (em_int)) am_nil)) am_nil))))))))
theorem d_read_flow (z : Zs mg) (d_read_entry : Df P w  K mg base 2 "read_entry" ["n", "words"] f_read_entry) {fa : Addr} {fd : FuncData} (F : FunD K "read_flow" "read_flow" (defArgs s_read_flow) (defBody s_read_flow) (defScope s_read_flow) [] [] fa fd) (hm : mg "read_flow" = some (.ref fa)) : Df P w K mg base 3 "read_flow" ["n", "words"] f_read_flow := by
  refine df_mk (k := 2) (N := ["n", "words", "found", "k"]) F sc_read_flow hm (fun _ _ _ _ _ _ us hl => match us, hl with | [_, _], _ => rfl) fun cdv A outer s H E hr => ?_
  have hu64 := hr.units
  have hu65 : (A.deeper (PyProof.Rows.envOfC "read_flow" (defScope s_read_flow) s.heap.objs.size fa cdv)).units + 65 < cLine := by have := hr.un; omega
  exact (bm_cons (sm_if (tm_of (wm_or (tm_co (bo_ne hu64) (em_slice (em_var 1) om_none (om_some (em_int))) (em_lst (am_cons (em_str) (am_cons (em_str) am_nil)))) (wm_or1 (tm_co (bo_ne hu64) (em_bo bo_mod (em_blt bf_len z.len (by decide +kernel) (am_cons (em_var 1) am_nil)) (em_int)) (em_int)))))
   (bm_one (sm_ret (em_non)))
   bm_nil)
  (bm_cons (sm_setLc [(Str.ofString "k", 3)] (.n 3) sc_read_flow.nd (im_rng3 z.range (am_cons (em_int) (am_cons (em_blt bf_len z.len (by decide +kernel) (am_cons (em_var 1) am_nil)) (am_cons (em_int) am_nil)))) (by kernel_rfl) (fun _ _ _ _ _ => (tg_name 3 sc_read_flow.nd)) (fun _ _ _ _ _ => tl_nil) (fun _ _ _ _ _ => (em_def d_read_entry hr (by decide) (am_cons (em_var 0) (am_cons (em_slice (em_var 1) (om_some (em_var 3)) (om_some (em_bo bo_add (em_var 3) (em_int)))) am_nil)) (cons_len (cons_len nil_len)))) (sw_true rfl rfl rfl (by decide +kernel)))
  (bm_cons (sm_if (tm_co (bo_in hu65) (em_non) (em_var 2))
   (bm_one (sm_ret (em_non)))
   bm_nil)
  (bm_one (sm_ret (em_bty (bf_tuple rfl) z.tuple (by decide +kernel) (am_cons (em_var 2) am_nil)))))))
theorem d_letters_of__t (z : Zs mg) {t_ALL_LETTERS : Tok} (c_ALL_LETTERS : mg "ALL_LETTERS" = some (.str "aAbBcCdD" t_ALL_LETTERS)) {fa : Addr} {fd : FuncData} (F : FunD K "letters_of" "letters_of" (defArgs s_letters_of__t) (defBody s_letters_of__t) (defScope s_letters_of__t) [] [] fa fd) (hm : mg "letters_of" = some (.ref fa)) : Df P w K mg base 1 "letters_of" ["n"] f_letters_of__t := by
  refine df_mk (k := 0) (N := ["n"]) F sc_letters_of__t hm (fun _ _ _ _ _ _ us hl => match us, hl with | [_], _ => rfl) fun cdv A outer s H E hr => ?_
  have hu64 := hr.units
  have hu65 : (A.deeper (PyProof.Rows.envOfC "letters_of" (defScope s_letters_of__t) s.heap.objs.size fa cdv)).units + 65 < cLine := by have := hr.un; omega
  exact (bm_one (sm_ret (em_bty (bf_tupT rfl) z.tuple (by decide +kernel) (am_cons (em_slice (em_glob (v := .str "aAbBcCdD") rfl c_ALL_LETTERS ⟨_, rfl⟩ (fun F => by simp only [Rp]; rfl)) om_none (om_some (em_bo bo_mul (em_int) (em_var 0)))) am_nil))))
theorem d_contrary (z : Zs mg) {fa : Addr} {fd : FuncData} (F : FunD K "contrary" "contrary" (defArgs s_contrary) (defBody s_contrary) (defScope s_contrary) [] [] fa fd) (hm : mg "contrary" = some (.ref fa)) : Df P w K mg base 1 "contrary" ["letter"] f_contrary := by
  refine df_mk (k := 0) (N := ["letter"]) F sc_contrary hm (fun _ _ _ _ _ _ us hl => match us, hl with | [_], _ => rfl) fun cdv A outer s H E hr => ?_
  have hu64 := hr.units
  have hu65 : (A.deeper (PyProof.Rows.envOfC "contrary" (defScope s_contrary) s.heap.objs.size fa cdv)).units + 65 < cLine := by have := hr.un; omega
  exact (bm_cons (sm_if (tm_val (em_m0 mo_islower PySem.F.plainAttrs_str PySem.F.slot_str_islower PySem.F.type_str_islower (em_var 0)))
   (bm_one (sm_ret (em_m0 mo_upper PySem.F.plainAttrs_str PySem.F.slot_str_upper PySem.F.type_str_upper (em_var 0))))
   bm_nil)
  (bm_one (sm_ret (em_m0 mo_lower PySem.F.plainAttrs_str PySem.F.slot_str_lower PySem.F.type_str_lower (em_var 0)))))
theorem d_is_side (z : Zs mg) (d_contrary : Df P w  K mg base 1 "contrary" ["letter"] f_contrary) (d_letters_of__t : Df P w  K mg base 1 "letters_of" ["n"] f_letters_of__t) {fa : Addr} {fd : FuncData} (F : FunD K "is_side" "is_side" (defArgs s_is_side) (defBody s_is_side) (defScope s_is_side) [] [] fa fd) (hm : mg "is_side" = some (.ref fa)) : Df P w K mg base 2 "is_side" ["n", "letter", "side"] f_is_side := by
  refine df_mk (k := 1) (N := ["n", "letter", "side", "letters", "places", "one"]) F sc_is_side hm (fun _ _ _ _ _ _ us hl => match us, hl with | [_, _, _], _ => rfl) fun cdv A outer s H E hr => ?_
  have hu64 := hr.units
  have hu65 : (A.deeper (PyProof.Rows.envOfC "is_side" (defScope s_is_side) s.heap.objs.size fa cdv)).units + 65 < cLine := by have := hr.un; omega
  exact (bm_cons (sm_asg (i := 3) sc_is_side.nd (em_def d_letters_of__t hr (by decide) (am_cons (em_var 0) am_nil) (cons_len nil_len)))
  (bm_cons (sm_if (tm_of (wm_or (tm_co (bo_notIn hu65) (em_var 1) (em_var 2)) (wm_or (tm_co (bo_in hu65) (em_def d_contrary hr (by decide) (am_cons (em_var 1) am_nil) (cons_len nil_len)) (em_var 2)) (wm_or1 (tm_not (tm_val (em_blt (bf_all rfl) z.all (by decide +kernel) (am_cons (em_lc [(Str.ofString "one", 5)] (.n 5) sc_is_side.nd (im_seq (em_var 2)) (by kernel_rfl) (fun _ _ _ _ _ => (tg_name 5 sc_is_side.nd)) (fun _ _ _ _ _ => tl_nil) (fun _ _ _ _ _ => (em_co bo_inP (em_var 5) (em_var 3)))) am_nil))))))))
   (bm_one (sm_ret (em_bl)))
   bm_nil)
  (bm_cons (sm_setLc [(Str.ofString "one", 5)] (.n 5) sc_is_side.nd (im_seq (em_var 2)) (by kernel_rfl) (fun _ _ _ _ _ => (tg_name 5 sc_is_side.nd)) (fun _ _ _ _ _ => tl_nil) (fun _ _ _ _ _ => (em_mP mo_pindex PySem.F.plainAttrs_tuple PySem.F.slot_tuple_index PySem.F.type_tuple_index (em_var 3) (am_cons (em_var 5) am_nil))) (sw_true rfl rfl rfl (by decide +kernel)))
  (bm_one (sm_ret (em_co (bo_eq hu64) (em_var 4) (em_sortSet rfl z.sorted z.set (em_var 4))))))))
theorem d_is_change (z : Zs mg) (d_is_side : Df P w  K mg base 2 "is_side" ["n", "letter", "side"] f_is_side) (d_letters_of : Df P w  K mg base 1 "letters_of" ["n"] f_letters_of) {fa : Addr} {fd : FuncData} (F : FunD K "is_change" "is_change" (defArgs s_is_change) (defBody s_is_change) (defScope s_is_change) [] [] fa fd) (hm : mg "is_change" = some (.ref fa)) : Df P w K mg base 3 "is_change" ["n", "change"] f_is_change := by
  refine df_mk (k := 2) (N := ["n", "change"]) F sc_is_change hm (fun _ _ _ _ _ _ us hl => match us, hl with | [_, _], _ => rfl) fun cdv A outer s H E hr => ?_
  have hu64 := hr.units
  have hu65 : (A.deeper (PyProof.Rows.envOfC "is_change" (defScope s_is_change) s.heap.objs.size fa cdv)).units + 65 < cLine := by have := hr.un; omega
  exact (bm_one (sm_ret ((em_andV (em_co (bo_in hu65) (em_bi (bi_ix hu64) (em_var 1) (em_int)) (em_def d_letters_of hr (by decide) (am_cons (em_var 0) am_nil) (cons_len nil_len))) (em_oneV (em_def d_is_side hr (by decide) (am_cons (em_var 0) (am_cons (em_bi (bi_ix hu64) (em_var 1) (em_int)) (am_cons (em_bi (bi_ix hu64) (em_var 1) (em_int)) am_nil))) (cons_len (cons_len (cons_len nil_len)))))))))
theorem d_look_change (z : Zs mg) (d_is_change : Df P w  K mg base 3 "is_change" ["n", "change"] f_is_change) (d_letters_of : Df P w  K mg base 1 "letters_of" ["n"] f_letters_of) {fa : Addr} {fd : FuncData} (F : FunD K "look_change" "look_change" (defArgs s_look_change) (defBody s_look_change) (defScope s_look_change) [] [] fa fd) (hm : mg "look_change" = some (.ref fa)) : Df P w K mg base 4 "look_change" ["n", "change"] f_look_change := by
  refine df_mk (k := 3) (N := ["n", "change"]) F sc_look_change hm (fun _ _ _ _ _ _ us hl => match us, hl with | [_, _], _ => rfl) fun cdv A outer s H E hr => ?_
  have hu64 := hr.units
  have hu65 : (A.deeper (PyProof.Rows.envOfC "look_change" (defScope s_look_change) s.heap.objs.size fa cdv)).units + 65 < cLine := by have := hr.un; omega
  exact (bm_cons (sm_if (tm_co (bo_notIn hu65) (em_bi (bi_ix hu64) (em_var 1) (em_int)) (em_def d_letters_of hr (by decide) (am_cons (em_var 0) am_nil) (cons_len nil_len)))
   (bm_one (sm_dead))
   bm_nil)
  (bm_cons (sm_if (tm_not (tm_val (em_def d_is_change hr (by decide) (am_cons (em_var 0) (am_cons (em_var 1) am_nil)) (cons_len (cons_len nil_len)))))
   (bm_one (sm_dead))
   bm_nil)
  (bm_one (sm_ret (em_bl)))))
theorem d_read_change (z : Zs mg) (d_look_change : Df P w  K mg base 4 "look_change" ["n", "change"] f_look_change) {fa : Addr} {fd : FuncData} (F : FunD K "read_change" "read_change" (defArgs s_read_change) (defBody s_read_change) (defScope s_read_change) [] [] fa fd) (hm : mg "read_change" = some (.ref fa)) : Df P w K mg base 5 "read_change" ["n", "words"] f_read_change := by
  refine df_mk (k := 4) (N := ["n", "words", "change"]) F sc_read_change hm (fun _ _ _ _ _ _ us hl => match us, hl with | [_, _], _ => rfl) fun cdv A outer s H E hr => ?_
  have hu64 := hr.units
  have hu65 : (A.deeper (PyProof.Rows.envOfC "read_change" (defScope s_read_change) s.heap.objs.size fa cdv)).units + 65 < cLine := by have := hr.un; omega
  exact (bm_cons (sm_if (tm_of (wm_or (tm_co (bo_ltA hu64) (em_blt bf_len z.len (by decide +kernel) (am_cons (em_var 1) am_nil)) (em_int)) (wm_or (tm_co (bo_ne hu64) (em_bi (bi_ix hu64) (em_var 1) (em_int)) (em_str)) (wm_or1 (tm_co (bo_ne hu64) (em_bi (bi_ix hu64) (em_var 1) (em_int)) (em_str))))))
   (bm_one (sm_ret (em_non)))
   bm_nil)
  (bm_cons (sm_asg (i := 2) sc_read_change.nd (em_tup (am_cons (em_bi (bi_ix hu64) (em_var 1) (em_int)) (am_cons (em_bty (bf_tuple rfl) z.tuple (by decide +kernel) (am_cons (em_slice (em_var 1) (om_some (em_int)) om_none) am_nil)) am_nil))))
  (bm_cons (sm_tryN (bm_one (sm_expr (em_def d_look_change hr (by decide) (am_cons (em_var 0) (am_cons (em_var 2) am_nil)) (cons_len (cons_len nil_len))))))
  (bm_one (sm_ret (em_var 2))))))
theorem d_read_paper (z : Zs mg) (d_read_change : Df P w  K mg base 5 "read_change" ["n", "words"] f_read_change) (d_read_flow : Df P w  K mg base 3 "read_flow" ["n", "words"] f_read_flow) (d_rows_of : Df P w  K mg base 1 "rows_of" ["text"] f_rows_of) {fa : Addr} {fd : FuncData} (F : FunD K "read_paper" "read_paper" (defArgs s_read_paper) (defBody s_read_paper) (defScope s_read_paper) [] [] fa fd) (hm : mg "read_paper" = some (.ref fa)) : Df P w K mg base 6 "read_paper" ["n", "text"] f_read_paper := by
  refine df_mk (k := 5) (N := ["n", "text", "changes", "flows", "k", "words", "change", "flow"]) F sc_read_paper hm (fun _ _ _ _ _ _ us hl => match us, hl with | [_, _], _ => rfl) fun cdv A outer s H E hr => ?_
  have hu64 := hr.units
  have hu65 : (A.deeper (PyProof.Rows.envOfC "read_paper" (defScope s_read_paper) s.heap.objs.size fa cdv)).units + 65 < cLine := by have := hr.un; omega
  exact (bm_cons (sm_asg (i := 2) sc_read_paper.nd (em_lst am_nil))
  (bm_cons (sm_asg (i := 3) sc_read_paper.nd (em_lst am_nil))
  (bm_cons (sm_for PassesOwn.never (im_enum z.enumerate (em_def d_rows_of hr (by decide) (am_cons (em_var 1) am_nil) (cons_len nil_len))) (tg_tup rfl (tg_cons (tg_name 4 sc_read_paper.nd) (tg_cons (tg_name 5 sc_read_paper.nd) tg_nil)))
   (bm_cons (sm_asg (i := 6) sc_read_paper.nd (em_non))
   (bm_cons (sm_if (tm_co (bo_eq hu64) (em_blt bf_len z.len (by decide +kernel) (am_cons (em_var 3) am_nil)) (em_int))
    (bm_one (sm_asg (i := 6) sc_read_paper.nd (em_def d_read_change hr (by decide) (am_cons (em_var 0) (am_cons (em_var 5) am_nil)) (cons_len (cons_len nil_len)))))
    bm_nil)
   (bm_cons (sm_asg (i := 7) sc_read_paper.nd (em_def d_read_flow hr (by decide) (am_cons (em_var 0) (am_cons (em_var 5) am_nil)) (cons_len (cons_len nil_len))))
   (bm_cons (sm_if (tm_of (wm_and (tm_co bo_is (em_var 6) (em_non)) (wm_and1 (tm_co bo_is (em_var 7) (em_non)))))
    (bm_one (sm_dead))
    bm_nil)
   (bm_one (sm_if (tm_co bo_is (em_var 6) (em_non))
    (bm_one (sm_expr (em_mut mu_append PySem.F.slot_list_append PySem.F.type_list_append (em_var 3) (am_cons (em_var 7) am_nil))))
    (bm_one (sm_expr (em_mut mu_append PySem.F.slot_list_append PySem.F.type_list_append (em_var 2) (am_cons (em_var 6) am_nil)))))))))))
  (bm_one (sm_ret (em_tup (am_cons (em_bty (bf_tuple rfl) z.tuple (by decide +kernel) (am_cons (em_var 2) am_nil)) (am_cons (em_bty (bf_tuple rfl) z.tuple (by decide +kernel) (am_cons (em_var 3) am_nil)) am_nil))))))))
theorem d_step_text (z : Zs mg) (d_change_text : Df P w  K mg base 1 "change_text" ["letter", "side"] f_change_text) {fa : Addr} {fd : FuncData} (F : FunD K "step_text" "step_text" (defArgs s_step_text) (defBody s_step_text) (defScope s_step_text) [] [] fa fd) (hm : mg "step_text" = some (.ref fa)) : Df P w K mg base 2 "step_text" ["step"] f_step_text := by
  refine df_mk (k := 1) (N := ["step"]) F sc_step_text hm (fun _ _ _ _ _ _ us hl => match us, hl with | [_], _ => rfl) fun cdv A outer s H E hr => ?_
  have hu64 := hr.units
  have hu65 : (A.deeper (PyProof.Rows.envOfC "step_text" (defScope s_step_text) s.heap.objs.size fa cdv)).units + 65 < cLine := by have := hr.un; omega
  exact (bm_cons (sm_if (tm_co (bo_eq hu64) (em_bi (bi_ix hu64) (em_var 0) (em_int)) (em_str))
   (bm_one (sm_ret (em_def d_change_text hr (by decide) (am_cons (em_bi (bi_ix hu64) (em_var 0) (em_int)) (am_cons (em_bi (bi_ix hu64) (em_var 0) (em_int)) am_nil)) (cons_len (cons_len nil_len)))))
   bm_nil)
  (bm_one (sm_ret (em_m mo_join PySem.F.plainAttrs_str PySem.F.slot_str_join PySem.F.type_str_join (em_str) (am_cons (em_bo bo_add (em_lst (am_cons (em_str) am_nil)) (em_bty (bf_list rfl) z.list (by decide +kernel) (am_cons (em_bi (bi_ix hu64) (em_var 0) (em_int)) am_nil))) am_nil)))))
theorem d_show_road (z : Zs mg) (d_step_text : Df P w  K mg base 2 "step_text" ["step"] f_step_text) {fa : Addr} {fd : FuncData} (F : FunD K "show_road" "show_road" (defArgs s_show_road) (defBody s_show_road) (defScope s_show_road) [] [] fa fd) (hm : mg "show_road" = some (.ref fa)) : Df P w K mg base 3 "show_road" ["road"] f_show_road := by
  refine df_mk (k := 2) (N := ["road", "step"]) F sc_show_road hm (fun _ _ _ _ _ _ us hl => match us, hl with | [_], _ => rfl) fun cdv A outer s H E hr => ?_
  have hu64 := hr.units
  have hu65 : (A.deeper (PyProof.Rows.envOfC "show_road" (defScope s_show_road) s.heap.objs.size fa cdv)).units + 65 < cLine := by have := hr.un; omega
  exact (bm_one (sm_ret (em_m mo_join PySem.F.plainAttrs_str PySem.F.slot_str_join PySem.F.type_str_join (em_str) (am_cons (em_lc [(Str.ofString "step", 1)] (.n 1) sc_show_road.nd (im_seq (em_var 0)) (by kernel_rfl) (fun _ _ _ _ _ => (tg_name 1 sc_show_road.nd)) (fun _ _ _ _ _ => tl_nil) (fun _ _ _ _ _ => (em_def d_step_text hr (by decide) (am_cons (em_var 1) am_nil) (cons_len nil_len)))) am_nil))))
theorem d_read_exchange (z : Zs mg) (d_letters_of : Df P w  K mg base 1 "letters_of" ["n"] f_letters_of) {fa : Addr} {fd : FuncData} (F : FunD K "read_exchange" "read_exchange" (defArgs s_read_exchange) (defBody s_read_exchange) (defScope s_read_exchange) [] [] fa fd) (hm : mg "read_exchange" = some (.ref fa)) : Df P w K mg base 2 "read_exchange" ["n", "words"] f_read_exchange := by
  refine df_mk (k := 1) (N := ["n", "words", "letters", "word"]) F sc_read_exchange hm (fun _ _ _ _ _ _ us hl => match us, hl with | [_, _], _ => rfl) fun cdv A outer s H E hr => ?_
  have hu64 := hr.units
  have hu65 : (A.deeper (PyProof.Rows.envOfC "read_exchange" (defScope s_read_exchange) s.heap.objs.size fa cdv)).units + 65 < cLine := by have := hr.un; omega
  exact (bm_cons (sm_asg (i := 2) sc_read_exchange.nd (em_def d_letters_of hr (by decide) (am_cons (em_var 0) am_nil) (cons_len nil_len)))
  (bm_cons (sm_if (tm_of (wm_or (tm_co (bo_ne hu64) (em_blt bf_len z.len (by decide +kernel) (am_cons (em_var 1) am_nil)) (em_bo bo_add (em_var 0) (em_int))) (wm_or (tm_co (bo_ne hu64) (em_bi (bi_ix hu64) (em_var 1) (em_int)) (em_str)) (wm_or1 (tm_not (tm_val (em_blt (bf_all rfl) z.all (by decide +kernel) (am_cons (em_lc [(Str.ofString "word", 3)] (.n 3) sc_read_exchange.nd (im_seq (em_slice (em_var 1) (om_some (em_int)) om_none)) (by kernel_rfl) (fun _ _ _ _ _ => (tg_name 3 sc_read_exchange.nd)) (fun _ _ _ _ _ => tl_nil) (fun _ _ _ _ _ => (em_co (bo_in hu65) (em_var 3) (em_var 2)))) am_nil))))))))
   (bm_one (sm_ret (em_non)))
   bm_nil)
  (bm_cons (sm_if (tm_co (bo_ne hu64) (em_blt bf_sortT z.sorted (by decide +kernel) (am_cons (em_lc [(Str.ofString "word", 3)] (.n 3) sc_read_exchange.nd (im_seq (em_slice (em_var 1) (om_some (em_int)) om_none)) (by kernel_rfl) (fun _ _ _ _ _ => (tg_name 3 sc_read_exchange.nd)) (fun _ _ _ _ _ => tl_nil) (fun _ _ _ _ _ => (em_m0 mo_lower PySem.F.plainAttrs_str PySem.F.slot_str_lower PySem.F.type_str_lower (em_var 3)))) am_nil)) (em_bty (bf_list rfl) z.list (by decide +kernel) (am_cons (em_slice (em_str) om_none (om_some (em_var 0))) am_nil)))
   (bm_one (sm_ret (em_non)))
   bm_nil)
  (bm_one (sm_ret (em_bty (bf_tuple rfl) z.tuple (by decide +kernel) (am_cons (em_slice (em_var 1) (om_some (em_int)) om_none) am_nil)))))))
theorem d_read_step (z : Zs mg) (d_read_change : Df P w  K mg base 5 "read_change" ["n", "words"] f_read_change) (d_read_exchange : Df P w  K mg base 2 "read_exchange" ["n", "words"] f_read_exchange) {fa : Addr} {fd : FuncData} (F : FunD K "read_step" "read_step" (defArgs s_read_step) (defBody s_read_step) (defScope s_read_step) [] [] fa fd) (hm : mg "read_step" = some (.ref fa)) : Df P w K mg base 6 "read_step" ["n", "words"] f_read_step := by
  refine df_mk (k := 5) (N := ["n", "words", "change", "letters"]) F sc_read_step hm (fun _ _ _ _ _ _ us hl => match us, hl with | [_, _], _ => rfl) fun cdv A outer s H E hr => ?_
  have hu64 := hr.units
  have hu65 : (A.deeper (PyProof.Rows.envOfC "read_step" (defScope s_read_step) s.heap.objs.size fa cdv)).units + 65 < cLine := by have := hr.un; omega
  exact (bm_cons (sm_asg (i := 2) sc_read_step.nd (em_def d_read_change hr (by decide) (am_cons (em_var 0) (am_cons (em_var 1) am_nil)) (cons_len (cons_len nil_len))))
  (bm_cons (sm_if (tm_co bo_isNot (em_var 2) (em_non))
   (bm_one (sm_ret (em_bo bo_add (em_tup (am_cons (em_str) am_nil)) (em_var 2))))
   bm_nil)
  (bm_cons (sm_asg (i := 3) sc_read_step.nd (em_def d_read_exchange hr (by decide) (am_cons (em_var 0) (am_cons (em_var 1) am_nil)) (cons_len (cons_len nil_len))))
  (bm_cons (sm_if (tm_co bo_is (em_var 3) (em_non))
   (bm_one (sm_ret (em_non)))
   bm_nil)
  (bm_one (sm_ret (em_tup (am_cons (em_str) (am_cons (em_var 3) am_nil)))))))))
theorem d_read_road (z : Zs mg) (d_read_step : Df P w  K mg base 6 "read_step" ["n", "words"] f_read_step) (d_rows_of : Df P w  K mg base 1 "rows_of" ["text"] f_rows_of) {fa : Addr} {fd : FuncData} (F : FunD K "read_road" "read_road" (defArgs s_read_road) (defBody s_read_road) (defScope s_read_road) [] [] fa fd) (hm : mg "read_road" = some (.ref fa)) : Df P w K mg base 7 "read_road" ["n", "text"] f_read_road := by
  refine df_mk (k := 6) (N := ["n", "text", "steps", "words"]) F sc_read_road hm (fun _ _ _ _ _ _ us hl => match us, hl with | [_, _], _ => rfl) fun cdv A outer s H E hr => ?_
  have hu64 := hr.units
  have hu65 : (A.deeper (PyProof.Rows.envOfC "read_road" (defScope s_read_road) s.heap.objs.size fa cdv)).units + 65 < cLine := by have := hr.un; omega
  exact (bm_cons (sm_setLc [(Str.ofString "words", 3)] (.n 3) sc_read_road.nd (im_seq (em_def d_rows_of hr (by decide) (am_cons (em_var 1) am_nil) (cons_len nil_len))) (by kernel_rfl) (fun _ _ _ _ _ => (tg_name 3 sc_read_road.nd)) (fun _ _ _ _ _ => tl_nil) (fun _ _ _ _ _ => (em_def d_read_step hr (by decide) (am_cons (em_var 0) (am_cons (em_var 3) am_nil)) (cons_len (cons_len nil_len)))) (sw_true rfl rfl rfl (by decide +kernel)))
  (bm_cons (sm_if (tm_co (bo_in hu65) (em_non) (em_var 2))
   (bm_one (sm_dead))
   bm_nil)
  (bm_one (sm_ret (em_bty (bf_tuple rfl) z.tuple (by decide +kernel) (am_cons (em_var 2) am_nil))))))
theorem d_law_right (z : Zs mg) (d_law_alike : Df P w  K mg base 9 "_law_alike" ["_law_found", "_law_due"] (f_law_alike 8)) (d_law_paper_text : Df P w  K mg base 2 "_law_paper_text" ["_law_paper"] f_law_paper_text) (d_law_road_text : Df P w  K mg base 2 "_law_road_text" ["_law_road"] f_law_road_text) (d_read_paper : Df P w  K mg base 6 "read_paper" ["n", "text"] f_read_paper) (d_read_road : Df P w  K mg base 7 "read_road" ["n", "text"] f_read_road) (d_show_paper : Df P w  K mg base 2 "show_paper" ["paper"] f_show_paper) (d_show_road : Df P w  K mg base 3 "show_road" ["road"] f_show_road) {fa : Addr} {fd : FuncData} (F : FunD K "_law_right" "_law_right" (defArgs s_law_right) (defBody s_law_right) (defScope s_law_right) [] [] fa fd) (hm : mg "_law_right" = some (.ref fa)) : Df P w K mg base 10 "_law_right" ["_law_n", "_law_road", "_law_paper"] f_law_right := by
  refine df_mk (k := 9) (N := ["_law_n", "_law_road", "_law_paper", "_law_text"]) F sc_law_right hm (fun _ _ _ _ _ _ us hl => match us, hl with | [_, _, _], _ => rfl) fun cdv A outer s H E hr => ?_
  have hu64 := hr.units
  have hu65 : (A.deeper (PyProof.Rows.envOfC "_law_right" (defScope s_law_right) s.heap.objs.size fa cdv)).units + 65 < cLine := by have := hr.un; omega
  exact (bm_cons (sm_asg (i := 3) sc_law_right.nd (em_def d_law_road_text hr (by decide) (am_cons (em_var 1) am_nil) (cons_len nil_len)))
  (bm_cons (sm_if (tm_of (wm_or (tm_not (tm_val (em_def d_law_alike hr (by decide) (am_cons (em_def d_show_road hr (by decide) (am_cons (em_var 1) am_nil) (cons_len nil_len)) (am_cons (em_var 3) am_nil)) (cons_len (cons_len nil_len))))) (wm_or1 (tm_not (tm_val (em_def d_law_alike hr (by decide) (am_cons (em_def d_read_road hr (by decide) (am_cons (em_var 0) (am_cons (em_var 3) am_nil)) (cons_len (cons_len nil_len))) (am_cons (em_var 1) am_nil)) (cons_len (cons_len nil_len))))))))
   (bm_one (sm_ret (em_bl)))
   bm_nil)
  (bm_cons (sm_asg (i := 3) sc_law_right.nd (em_def d_law_paper_text hr (by decide) (am_cons (em_var 2) am_nil) (cons_len nil_len)))
  (bm_one (sm_ret ((em_andV (em_def d_law_alike hr (by decide) (am_cons (em_def d_show_paper hr (by decide) (am_cons (em_var 2) am_nil) (cons_len nil_len)) (am_cons (em_var 3) am_nil)) (cons_len (cons_len nil_len))) (em_oneV (em_def d_law_alike hr (by decide) (am_cons (em_def d_read_paper hr (by decide) (am_cons (em_var 0) (am_cons (em_var 3) am_nil)) (cons_len (cons_len nil_len))) (am_cons (em_var 2) am_nil)) (cons_len (cons_len nil_len)))))))))))
theorem d_law_letters (z : Zs mg) {fa : Addr} {fd : FuncData} (F : FunD K "_law_letters" "_law_letters" (defArgs s_law_letters) (defBody s_law_letters) (defScope s_law_letters) [] [] fa fd) (hm : mg "_law_letters" = some (.ref fa)) : Df P w K mg base 1 "_law_letters" ["_law_n"] f_law_letters := by
  refine df_mk (k := 0) (N := ["_law_n"]) F sc_law_letters hm (fun _ _ _ _ _ _ us hl => match us, hl with | [_], _ => rfl) fun cdv A outer s H E hr => ?_
  have hu64 := hr.units
  have hu65 : (A.deeper (PyProof.Rows.envOfC "_law_letters" (defScope s_law_letters) s.heap.objs.size fa cdv)).units + 65 < cLine := by have := hr.un; omega
  exact (bm_one (sm_ret (em_bty (bf_list rfl) z.list (by decide +kernel) (am_cons (em_slice (em_str) om_none (om_some (em_bo bo_mul (em_int) (em_var 0)))) am_nil))))
theorem d_law_contrary (z : Zs mg) {fa : Addr} {fd : FuncData} (F : FunD K "_law_contrary" "_law_contrary" (defArgs s_law_contrary) (defBody s_law_contrary) (defScope s_law_contrary) [] [] fa fd) (hm : mg "_law_contrary" = some (.ref fa)) : Df P w K mg base 1 "_law_contrary" ["_law_letter"] f_law_contrary := by
  refine df_mk (k := 0) (N := ["_law_letter"]) F sc_law_contrary hm (fun _ _ _ _ _ _ us hl => match us, hl with | [_], _ => rfl) fun cdv A outer s H E hr => ?_
  have hu64 := hr.units
  have hu65 : (A.deeper (PyProof.Rows.envOfC "_law_contrary" (defScope s_law_contrary) s.heap.objs.size fa cdv)).units + 65 < cLine := by have := hr.un; omega
  exact (bm_cons (sm_if (tm_val (em_m0 mo_islower PySem.F.plainAttrs_str PySem.F.slot_str_islower PySem.F.type_str_islower (em_var 0)))
   (bm_one (sm_ret (em_m0 mo_upper PySem.F.plainAttrs_str PySem.F.slot_str_upper PySem.F.type_str_upper (em_var 0))))
   bm_nil)
  (bm_one (sm_ret (em_m0 mo_lower PySem.F.plainAttrs_str PySem.F.slot_str_lower PySem.F.type_str_lower (em_var 0)))))
theorem d_law_drawn_change (z : Zs mg) (d_law_contrary : Df P w  K mg base 1 "_law_contrary" ["_law_letter"] f_law_contrary) (d_law_letters : Df P w  K mg base 1 "_law_letters" ["_law_n"] f_law_letters) (d_law_pick : Df P w  K mg base 1 "_law_pick" ["_law_flow_here", "_law_many"] f_law_pick) {fa : Addr} {fd : FuncData} (F : FunD K "_law_drawn_change" "_law_drawn_change" (defArgs s_law_drawn_change) (defBody s_law_drawn_change) (defScope s_law_drawn_change) [] [] fa fd) (hm : mg "_law_drawn_change" = some (.ref fa)) : Df P w K mg base 2 "_law_drawn_change" ["_law_flow_here", "_law_n"] f_law_drawn_change := by
  refine df_mk (k := 1) (N := ["_law_flow_here", "_law_n", "_law_letter", "_law_side", "_law_other"]) F sc_law_drawn_change hm (fun _ _ _ _ _ _ us hl => match us, hl with | [_, _], _ => rfl) fun cdv A outer s H E hr => ?_
  have hu64 := hr.units
  have hu65 : (A.deeper (PyProof.Rows.envOfC "_law_drawn_change" (defScope s_law_drawn_change) s.heap.objs.size fa cdv)).units + 65 < cLine := by have := hr.un; omega
  exact (bm_cons (sm_asg (i := 2) sc_law_drawn_change.nd (em_bi (bi_ix hu64) (em_def d_law_letters hr (by decide) (am_cons (em_var 1) am_nil) (cons_len nil_len)) (em_def d_law_pick hr (by decide) (am_cons (em_var 0) (am_cons (em_bo bo_mul (em_int) (em_var 1)) am_nil)) (cons_len (cons_len nil_len)))))
  (bm_cons (sm_asg (i := 3) sc_law_drawn_change.nd (em_lst am_nil))
  (bm_cons (sm_for PassesOwn.never (im_seq (em_def d_law_letters hr (by decide) (am_cons (em_var 1) am_nil) (cons_len nil_len))) (tg_name 4 sc_law_drawn_change.nd)
   (bm_one (sm_if (tm_of (wm_or (tm_co (bo_eq hu64) (em_var 4) (em_var 2)) (wm_or1 (tm_of (wm_and (tm_co (bo_ne hu64) (em_var 4) (em_def d_law_contrary hr (by decide) (am_cons (em_var 2) am_nil) (cons_len nil_len))) (wm_and1 (tm_co (bo_eq hu64) (em_def d_law_pick hr (by decide) (am_cons (em_var 0) (am_cons (em_int) am_nil)) (cons_len (cons_len nil_len))) (em_int))))))))
    (bm_one (sm_expr (em_mut mu_append PySem.F.slot_list_append PySem.F.type_list_append (em_var 3) (am_cons (em_var 4) am_nil))))
    bm_nil)))
  (bm_one (sm_ret (em_tup (am_cons (em_var 2) (am_cons (em_bty (bf_tuple rfl) z.tuple (by decide +kernel) (am_cons (em_var 3) am_nil)) am_nil))))))))
theorem d_law_exchange (z : Zs mg) (d_law_pick : Df P w  K mg base 1 "_law_pick" ["_law_flow_here", "_law_many"] f_law_pick) {fa : Addr} {fd : FuncData} (F : FunD K "_law_exchange" "_law_exchange" (defArgs s_law_exchange) (defBody s_law_exchange) (defScope s_law_exchange) [] [] fa fd) (hm : mg "_law_exchange" = some (.ref fa)) : Df P w K mg base 2 "_law_exchange" ["_law_flow_here", "_law_n"] f_law_exchange := by
  refine df_mk (k := 1) (N := ["_law_flow_here", "_law_n", "_law_left", "_law_found", "_law_k", "_law_letter"]) F sc_law_exchange hm (fun _ _ _ _ _ _ us hl => match us, hl with | [_, _], _ => rfl) fun cdv A outer s H E hr => ?_
  have hu64 := hr.units
  have hu65 : (A.deeper (PyProof.Rows.envOfC "_law_exchange" (defScope s_law_exchange) s.heap.objs.size fa cdv)).units + 65 < cLine := by have := hr.un; omega
  exact (bm_cons (sm_asg (i := 2) sc_law_exchange.nd (em_bty (bf_list rfl) z.list (by decide +kernel) (am_cons (em_slice (em_str) om_none (om_some (em_var 1))) am_nil)))
  (bm_cons (sm_asg (i := 3) sc_law_exchange.nd (em_lst am_nil))
  (bm_cons (sm_for PassesOwn.never (im_rng1 z.range (am_cons (em_var 1) am_nil)) (tg_name 4 sc_law_exchange.nd)
   (bm_cons (sm_asg (i := 5) sc_law_exchange.nd (em_mut mu_pop PySem.F.slot_list_pop PySem.F.type_list_pop (em_var 2) (am_cons (em_def d_law_pick hr (by decide) (am_cons (em_var 0) (am_cons (em_blt bf_len z.len (by decide +kernel) (am_cons (em_var 2) am_nil)) am_nil)) (cons_len (cons_len nil_len))) am_nil)))
   (bm_one (sm_expr (em_mut mu_append PySem.F.slot_list_append PySem.F.type_list_append (em_var 3) (am_cons (em_bi (bi_ix hu64) (em_lst (am_cons (em_var 5) (am_cons (em_m0 mo_upper PySem.F.plainAttrs_str PySem.F.slot_str_upper PySem.F.type_str_upper (em_var 5)) am_nil))) (em_def d_law_pick hr (by decide) (am_cons (em_var 0) (am_cons (em_int) am_nil)) (cons_len (cons_len nil_len)))) am_nil))))))
  (bm_one (sm_ret (em_bty (bf_tuple rfl) z.tuple (by decide +kernel) (am_cons (em_var 3) am_nil)))))))
theorem d_law_drawn_step (z : Zs mg) (d_law_drawn_change : Df P w  K mg base 2 "_law_drawn_change" ["_law_flow_here", "_law_n"] f_law_drawn_change) (d_law_exchange : Df P w  K mg base 2 "_law_exchange" ["_law_flow_here", "_law_n"] f_law_exchange) (d_law_pick : Df P w  K mg base 1 "_law_pick" ["_law_flow_here", "_law_many"] f_law_pick) {fa : Addr} {fd : FuncData} (F : FunD K "_law_drawn_step" "_law_drawn_step" (defArgs s_law_drawn_step) (defBody s_law_drawn_step) (defScope s_law_drawn_step) [] [] fa fd) (hm : mg "_law_drawn_step" = some (.ref fa)) : Df P w K mg base 3 "_law_drawn_step" ["_law_flow_here", "_law_n"] f_law_drawn_step := by
  refine df_mk (k := 2) (N := ["_law_flow_here", "_law_n"]) F sc_law_drawn_step hm (fun _ _ _ _ _ _ us hl => match us, hl with | [_, _], _ => rfl) fun cdv A outer s H E hr => ?_
  have hu64 := hr.units
  have hu65 : (A.deeper (PyProof.Rows.envOfC "_law_drawn_step" (defScope s_law_drawn_step) s.heap.objs.size fa cdv)).units + 65 < cLine := by have := hr.un; omega
  exact (bm_cons (sm_if (tm_co (bo_eq hu64) (em_def d_law_pick hr (by decide) (am_cons (em_var 0) (am_cons (em_int) am_nil)) (cons_len (cons_len nil_len))) (em_int))
   (bm_one (sm_ret (em_tup (am_cons (em_str) (am_cons (em_def d_law_exchange hr (by decide) (am_cons (em_var 0) (am_cons (em_var 1) am_nil)) (cons_len (cons_len nil_len))) am_nil)))))
   bm_nil)
  (bm_one (sm_ret (em_bo bo_add (em_tup (am_cons (em_str) am_nil)) (em_def d_law_drawn_change hr (by decide) (am_cons (em_var 0) (am_cons (em_var 1) am_nil)) (cons_len (cons_len nil_len)))))))
theorem d_law_drawn_road (z : Zs mg) (d_law_drawn_step : Df P w  K mg base 3 "_law_drawn_step" ["_law_flow_here", "_law_n"] f_law_drawn_step) (d_law_pick : Df P w  K mg base 1 "_law_pick" ["_law_flow_here", "_law_many"] f_law_pick) {fa : Addr} {fd : FuncData} (F : FunD K "_law_drawn_road" "_law_drawn_road" (defArgs s_law_drawn_road) (defBody s_law_drawn_road) (defScope s_law_drawn_road) [] [] fa fd) (hm : mg "_law_drawn_road" = some (.ref fa)) : Df P w K mg base 4 "_law_drawn_road" ["_law_flow_here", "_law_n"] f_law_drawn_road := by
  refine df_mk (k := 3) (N := ["_law_flow_here", "_law_n", "_law_k"]) F sc_law_drawn_road hm (fun _ _ _ _ _ _ us hl => match us, hl with | [_, _], _ => rfl) fun cdv A outer s H E hr => ?_
  have hu64 := hr.units
  have hu65 : (A.deeper (PyProof.Rows.envOfC "_law_drawn_road" (defScope s_law_drawn_road) s.heap.objs.size fa cdv)).units + 65 < cLine := by have := hr.un; omega
  exact (bm_one (sm_ret (em_bty (bf_tuple rfl) z.tuple (by decide +kernel) (am_cons (em_lc [(Str.ofString "_law_k", 2)] (.n 2) sc_law_drawn_road.nd (im_rng1 z.range (am_cons (em_def d_law_pick hr (by decide) (am_cons (em_var 0) (am_cons (em_int) am_nil)) (cons_len (cons_len nil_len))) am_nil)) (by kernel_rfl) (fun _ _ _ _ _ => (tg_name 2 sc_law_drawn_road.nd)) (fun _ _ _ _ _ => tl_nil) (fun _ _ _ _ _ => (em_def d_law_drawn_step hr (by decide) (am_cons (em_var 0) (am_cons (em_var 1) am_nil)) (cons_len (cons_len nil_len))))) am_nil))))
theorem d_law_drawn_entry (z : Zs mg) (d_law_letters : Df P w  K mg base 1 "_law_letters" ["_law_n"] f_law_letters) (d_law_pick : Df P w  K mg base 1 "_law_pick" ["_law_flow_here", "_law_many"] f_law_pick) {fa : Addr} {fd : FuncData} (F : FunD K "_law_drawn_entry" "_law_drawn_entry" (defArgs s_law_drawn_entry) (defBody s_law_drawn_entry) (defScope s_law_drawn_entry) [] [] fa fd) (hm : mg "_law_drawn_entry" = some (.ref fa)) : Df P w K mg base 2 "_law_drawn_entry" ["_law_flow_here", "_law_n"] f_law_drawn_entry := by
  refine df_mk (k := 1) (N := ["_law_flow_here", "_law_n", "_law_one", "_law_other", "_law_k"]) F sc_law_drawn_entry hm (fun _ _ _ _ _ _ us hl => match us, hl with | [_, _], _ => rfl) fun cdv A outer s H E hr => ?_
  have hu64 := hr.units
  have hu65 : (A.deeper (PyProof.Rows.envOfC "_law_drawn_entry" (defScope s_law_drawn_entry) s.heap.objs.size fa cdv)).units + 65 < cLine := by have := hr.un; omega
  exact (bm_cons (sm_asgT (tg_tup rfl (tg_cons (tg_name 2 sc_law_drawn_entry.nd) (tg_cons (tg_name 3 sc_law_drawn_entry.nd) tg_nil))) (em_lc [(Str.ofString "_law_k", 4)] (.n 4) sc_law_drawn_entry.nd (im_rng1 z.range (am_cons (em_int) am_nil)) (by kernel_rfl) (fun _ _ _ _ _ => (tg_name 4 sc_law_drawn_entry.nd)) (fun _ _ _ _ _ => tl_nil) (fun _ _ _ _ _ => (em_bi (bi_ix hu64) (em_def d_law_letters hr (by decide) (am_cons (em_var 1) am_nil) (cons_len nil_len)) (em_def d_law_pick hr (by decide) (am_cons (em_var 0) (am_cons (em_bo bo_mul (em_int) (em_var 1)) am_nil)) (cons_len (cons_len nil_len)))))))
  (bm_one (sm_ret (em_tup (am_cons (em_var 2) (am_cons (em_var 3) (am_cons (em_bo bo_add (em_int) (em_bi (bi_ix hu64) (em_lst (am_cons (em_def d_law_pick hr (by decide) (am_cons (em_var 0) (am_cons (em_int) am_nil)) (cons_len (cons_len nil_len))) (am_cons (em_def d_law_pick hr (by decide) (am_cons (em_var 0) (am_cons (em_int) am_nil)) (cons_len (cons_len nil_len))) am_nil))) (em_def d_law_pick hr (by decide) (am_cons (em_var 0) (am_cons (em_int) am_nil)) (cons_len (cons_len nil_len))))) am_nil)))))))
theorem d_law_drawn_paper (z : Zs mg) (d_law_drawn_change : Df P w  K mg base 2 "_law_drawn_change" ["_law_flow_here", "_law_n"] f_law_drawn_change) (d_law_drawn_entry : Df P w  K mg base 2 "_law_drawn_entry" ["_law_flow_here", "_law_n"] f_law_drawn_entry) (d_law_pick : Df P w  K mg base 1 "_law_pick" ["_law_flow_here", "_law_many"] f_law_pick) {fa : Addr} {fd : FuncData} (F : FunD K "_law_drawn_paper" "_law_drawn_paper" (defArgs s_law_drawn_paper) (defBody s_law_drawn_paper) (defScope s_law_drawn_paper) [] [] fa fd) (hm : mg "_law_drawn_paper" = some (.ref fa)) : Df P w K mg base 3 "_law_drawn_paper" ["_law_flow_here", "_law_n"] f_law_drawn_paper := by
  refine df_mk (k := 2) (N := ["_law_flow_here", "_law_n", "_law_many", "_law_changes", "_law_flows", "_law_k", "_law_j"]) F sc_law_drawn_paper hm (fun _ _ _ _ _ _ us hl => match us, hl with | [_, _], _ => rfl) fun cdv A outer s H E hr => ?_
  have hu64 := hr.units
  have hu65 : (A.deeper (PyProof.Rows.envOfC "_law_drawn_paper" (defScope s_law_drawn_paper) s.heap.objs.size fa cdv)).units + 65 < cLine := by have := hr.un; omega
  exact (bm_cons (sm_asg (i := 2) sc_law_drawn_paper.nd (em_bi (bi_ix hu64) (em_lst (am_cons (em_def d_law_pick hr (by decide) (am_cons (em_var 0) (am_cons (em_int) am_nil)) (cons_len (cons_len nil_len))) (am_cons (em_def d_law_pick hr (by decide) (am_cons (em_var 0) (am_cons (em_int) am_nil)) (cons_len (cons_len nil_len))) am_nil))) (em_bty bf_int z.int (by decide +kernel) (am_cons (em_co (bo_eq hu64) (em_def d_law_pick hr (by decide) (am_cons (em_var 0) (am_cons (em_int) am_nil)) (cons_len (cons_len nil_len))) (em_int)) am_nil))))
  (bm_cons (sm_asg (i := 3) sc_law_drawn_paper.nd (em_bty (bf_tuple rfl) z.tuple (by decide +kernel) (am_cons (em_lc [(Str.ofString "_law_k", 5)] (.n 5) sc_law_drawn_paper.nd (im_rng1 z.range (am_cons (em_var 2) am_nil)) (by kernel_rfl) (fun _ _ _ _ _ => (tg_name 5 sc_law_drawn_paper.nd)) (fun _ _ _ _ _ => tl_nil) (fun _ _ _ _ _ => (em_def d_law_drawn_change hr (by decide) (am_cons (em_var 0) (am_cons (em_var 1) am_nil)) (cons_len (cons_len nil_len))))) am_nil)))
  (bm_cons (sm_asg (i := 4) sc_law_drawn_paper.nd (em_lst am_nil))
  (bm_cons (sm_for PassesOwn.never (im_rng1 z.range (am_cons (em_def d_law_pick hr (by decide) (am_cons (em_var 0) (am_cons (em_int) am_nil)) (cons_len (cons_len nil_len))) am_nil)) (tg_name 5 sc_law_drawn_paper.nd)
   (bm_one (sm_expr (em_mut mu_append PySem.F.slot_list_append PySem.F.type_list_append (em_var 4) (am_cons (em_bty (bf_tuple rfl) z.tuple (by decide +kernel) (am_cons (em_lc [(Str.ofString "_law_j", 6)] (.n 6) sc_law_drawn_paper.nd (im_rng1 z.range (am_cons (em_def d_law_pick hr (by decide) (am_cons (em_var 0) (am_cons (em_int) am_nil)) (cons_len (cons_len nil_len))) am_nil)) (by kernel_rfl) (fun _ _ _ _ _ => (tg_name 6 sc_law_drawn_paper.nd)) (fun _ _ _ _ _ => tl_nil) (fun _ _ _ _ _ => (em_def d_law_drawn_entry hr (by decide) (am_cons (em_var 0) (am_cons (em_var 1) am_nil)) (cons_len (cons_len nil_len))))) am_nil)) am_nil)))))
  (bm_one (sm_ret (em_tup (am_cons (em_var 3) (am_cons (em_bty (bf_tuple rfl) z.tuple (by decide +kernel) (am_cons (em_var 4) am_nil)) am_nil)))))))))
theorem d_law (z : Zs mg) (d_law_drawn_paper : Df P w  K mg base 3 "_law_drawn_paper" ["_law_flow_here", "_law_n"] f_law_drawn_paper) (d_law_drawn_road : Df P w  K mg base 4 "_law_drawn_road" ["_law_flow_here", "_law_n"] f_law_drawn_road) (d_law_flow : Df P w  K mg base 1 "_law_flow" ["_law_script"] f_law_flow) (d_law_pick : Df P w  K mg base 1 "_law_pick" ["_law_flow_here", "_law_many"] f_law_pick) (d_law_right : Df P w  K mg base 10 "_law_right" ["_law_n", "_law_road", "_law_paper"] f_law_right) {fa : Addr} {fd : FuncData} (F : FunD K "law" "law" (defArgs s_law) (defBody s_law) (defScope s_law) [] [] fa fd) (hm : mg "law" = some (.ref fa)) : FnOk P w K mg base CX0 11 fa fd ["_law_script"] (spM K mg 1 f_law) := by
  refine fn_mk (k := 10) (N := ["_law_script", "_law_flow_here", "_law_some", "_law_k", "_law_bare", "_law_n", "_law_road", "_law_paper"]) F sc_law hm (fun _ _ _ _ _ _ us hl => match us, hl with | [_], _ => rfl) fun cdv A outer s H E hr => ?_
  have hu64 := hr.units
  have hu65 : (A.deeper (PyProof.Rows.envOfC "law" (defScope s_law) s.heap.objs.size fa cdv)).units + 65 < cLine := by have := hr.un; omega
  exact (bm_cons (sm_asg (i := 1) sc_law.nd (em_def d_law_flow hr (by decide) (am_cons (em_var 0) am_nil) (cons_len nil_len)))
  (bm_cons (sm_asg (i := 2) sc_law.nd (em_lst am_nil))
  (bm_cons (sm_for PassesOwn.never (im_rng1 z.range (am_cons (em_int) am_nil)) (tg_name 3 sc_law.nd)
   (bm_cons (sm_asg (i := 5) sc_law.nd (em_bo bo_add (em_int) (em_def d_law_pick hr (by decide) (am_cons (em_var 1) (am_cons (em_int) am_nil)) (cons_len (cons_len nil_len)))))
   (bm_one (sm_expr (em_mut mu_append PySem.F.slot_list_append PySem.F.type_list_append (em_var 2) (am_cons (em_tup (am_cons (em_var 5) (am_cons (em_def d_law_drawn_road hr (by decide) (am_cons (em_var 1) (am_cons (em_var 5) am_nil)) (cons_len (cons_len nil_len))) (am_cons (em_def d_law_drawn_paper hr (by decide) (am_cons (em_var 1) (am_cons (em_var 5) am_nil)) (cons_len (cons_len nil_len))) am_nil)))) am_nil))))))
  (bm_cons (sm_asg (i := 4) sc_law.nd (em_tup (am_cons (em_bi (bi_ix hu64) (em_bi (bi_ix hu64) (em_var 2) (em_int)) (em_int)) (am_cons (em_tup am_nil) (am_cons (em_tup (am_cons (em_tup am_nil) (am_cons (em_tup am_nil) am_nil))) am_nil)))))
  (bm_one (sm_ret (em_blt (bf_all rfl) z.all (by decide +kernel) (am_cons (em_lc [(Str.ofString "_law_n", 5), (Str.ofString "_law_road", 6), (Str.ofString "_law_paper", 7)] (.t [(.n 5), (.n 6), (.n 7)]) sc_law.nd (im_seq (em_bo bo_add (em_bo bo_add (em_var 2) (em_lst (am_cons (em_var 4) am_nil))) (em_slice (em_var 2) om_none (om_some (em_int))))) (by kernel_rfl) (fun _ _ _ _ _ => (tg_tup rfl (tg_cons (tg_name 5 sc_law.nd) (tg_cons (tg_name 6 sc_law.nd) (tg_cons (tg_name 7 sc_law.nd) tg_nil))))) (fun _ _ _ _ _ => tl_nil) (fun _ _ _ _ _ => (em_def d_law_right hr (by decide) (am_cons (em_var 5) (am_cons (em_var 6) (am_cons (em_var 7) am_nil))) (cons_len (cons_len (cons_len nil_len)))))) am_nil))))))))
end
end T
open PySem PySem.Spec L2 Z
local macro_rules | `(tactic| walk_at "ln") => `(tactic| (simp only [List.length_append, List.length_take, List.length_drop, List.length_cons, List.length_nil, back_len, chars_len, nums_len, big] <;> omega))
local macro_rules | `(tactic| walk_at "lw") => `(tactic| first | assumption | exact Lw.nil | (refine Lw.one ?_; walk_at "lw") | (refine Lw.app ?_ ?_ <;> walk_at "lw") | (refine lw_back ?_; walk_at "lw") | (refine lw_lay ?_; walk_at "lw") | (refine lw_jn ?_ ?_ <;> walk_at "lw") | (refine inv_mem ?_; walk_at "lw") | (refine Lw.take ?_ _; walk_at "lw") | (refine Lw.drop ?_ _; walk_at "lw"))
local macro_rules | `(tactic| walk_at "ok") => `(tactic| first | rfl | (refine Lw.ok ?_; walk_at "lw") | (refine okD_chars ?_; walk_at "lw") | exact okD_nums _)
local macro_rules | `(tactic| walk_at "ye") => `(tactic| first
  | with_reducible refine we_bin ?_
  | with_reducible refine we_un ?_
  | with_reducible refine we_cst ?_
  | with_reducible refine we_cons ?_
  | with_reducible refine we_nil ?_
  | with_reducible refine we_toB ?_
  | with_reducible refine we_and ?_
  | with_reducible refine we_or ?_
  | with_reducible refine we_not ?_
  | with_reducible refine we_andV ?_
  | with_reducible refine we_orV ?_
  | with_reducible refine we_notV ?_
  | with_reducible refine we_ite ?_
  | with_reducible refine we_no ?_
  | with_reducible refine we_toI ?_
  | with_reducible refine we_slice ?_
  | with_reducible refine we_blt ?_
  | with_reducible refine we_meth0 ?_
  | with_reducible refine we_meth ?_
  | with_reducible refine we_mut0 ?_
  | with_reducible refine we_mut ?_
  | with_reducible refine we_shr_sh ?_
  | with_reducible refine we_shr_nw ?_
  | with_reducible refine we_dnew ?_
  | with_reducible refine we_shrs_nil ?_
  | with_reducible refine we_shrs_cons ?_
  | with_reducible refine we_tup ?_
  | with_reducible refine we_lst ?_
  | with_reducible refine we_call ?_
  | with_reducible refine we_seq ?_
  | with_reducible refine we_rev ?_
  | with_reducible refine we_enum ?_
  | with_reducible refine we_args ?_
  | with_reducible refine we_lc ?_
  | with_reducible refine ws_seq ?_
  | with_reducible refine ws_pass ?_
  | with_reducible refine ws_expr ?_
  | with_reducible refine ws_asg ?_
  | with_reducible refine ws_sto_sh ?_
  | with_reducible refine ws_sto_nw ?_
  | with_reducible refine ws_sto_at ?_
  | with_reducible refine ws_asgT ?_
  | with_reducible refine ws_ret ?_
  | with_reducible refine ws_retN ?_
  | with_reducible refine ws_for ?_
  | with_reducible refine ws_brk ?_
  | with_reducible refine ws_cont ?_
  | with_reducible refine we_rv_sh ?_
  | with_reducible refine we_rv_nw ?_
  | with_reducible refine ws_setIx ?_
  | with_reducible refine ws_par ?_
  | with_reducible refine we_dget ?_
  | with_reducible refine we_chain ?_
  | with_reducible refine we_disp1 ?_
  | with_reducible refine ws_rr1 ?_
  | with_reducible refine ws_retS ?_
  | with_reducible refine we_pure' ?_
  | with_reducible refine we_mk1 ?_
  | with_reducible refine we_methP ?_
  | with_reducible refine ws_rr0 ?_
  | ((with_reducible apply we_sh); exact rfl)
  | ((with_reducible apply we_ow); exact rfl)
  | ((with_reducible apply we_shr_ats); exact rfl)
  | ((with_reducible apply we_shr_at); exact rfl)
  | ((with_reducible apply we_rv_ats); exact rfl)
  | ((with_reducible apply we_rv_new); exact rfl)
  | ((with_reducible apply we_rv_par); exact rfl)
  | ((with_reducible apply we_use1); exact rfl; exact rfl)
  | ((with_reducible apply we_useL); exact rfl; exact rfl)
  | ((with_reducible apply we_useU); exact rfl; exact rfl)
  | ((with_reducible apply we_use3); exact rfl; exact rfl; exact rfl; exact rfl)
  | ((with_reducible apply we_use2); exact rfl; exact rfl; exact rfl)
  | ((with_reducible apply we_useM); exact rfl; exact rfl; exact rfl)
  | ((with_reducible apply ws_setL); exact rfl; exact rfl; exact rfl)
  | ((with_reducible apply we_use2); exact rfl; exact rfl; exact opMod_ok (by decide))
  | ((with_reducible apply we_use2); exact rfl; exact rfl; exact opFdiv_ok (by decide) (by decide))
  | ((with_reducible apply we_use2); exact rfl; exact rfl; exact opMul_r (by decide))
  | ((with_reducible apply we_use2); exact rfl; exact rfl; exact opMul_l (by decide))
  | ((with_reducible apply we_useL); exact rfl; exact opLen_str (by walk_at "ln"))
  | ((with_reducible apply we_use1); exact rfl; exact opRev_str (by walk_at "ln"))
  | ((with_reducible apply we_use2); exact rfl; exact rfl; exact opAdd_str (by walk_at "ln"))
  | ((with_reducible apply we_use2); exact rfl; exact rfl; exact opEq_ok (by walk_at "ok") (by walk_at "ok"))
  | ((with_reducible apply we_use2); exact rfl; exact rfl; exact opNe_ok (by walk_at "ok") (by walk_at "ok"))
  | refine ⟨_, rngD1_ok (by omega) (by omega), ?_⟩
  | refine ⟨_, rngD2_ok (by omega) (by omega) (by omega) (by omega), ?_⟩
  | refine ⟨_, _, rfl, rfl, ?_⟩
  | refine ⟨_, rfl, rfl, ?_⟩
  | refine ⟨rfl, _, rfl, ?_⟩
  | refine ⟨_, rfl, ?_⟩
  | refine And.intro (by decide : _ ≤ big) ?_)
local macro_rules | `(tactic| walk_at "ze") => `(tactic| first
  | with_reducible refine we_bin ?_
  | with_reducible refine we_un ?_
  | with_reducible refine we_cst ?_
  | with_reducible refine we_cons ?_
  | with_reducible refine we_nil ?_
  | with_reducible refine we_toB ?_
  | with_reducible refine we_and ?_
  | with_reducible refine we_or ?_
  | with_reducible refine we_not ?_
  | with_reducible refine we_andV ?_
  | with_reducible refine we_orV ?_
  | with_reducible refine we_notV ?_
  | with_reducible refine we_ite ?_
  | with_reducible refine we_no ?_
  | with_reducible refine we_toI ?_
  | with_reducible refine we_slice ?_
  | with_reducible refine we_blt ?_
  | with_reducible refine we_meth0 ?_
  | with_reducible refine we_meth ?_
  | with_reducible refine we_mut0 ?_
  | with_reducible refine we_mut ?_
  | with_reducible refine we_shr_sh ?_
  | with_reducible refine we_shr_nw ?_
  | with_reducible refine we_dnew ?_
  | with_reducible refine we_shrs_nil ?_
  | with_reducible refine we_shrs_cons ?_
  | with_reducible refine we_tup ?_
  | with_reducible refine we_lst ?_
  | with_reducible refine we_call ?_
  | with_reducible refine we_seq ?_
  | with_reducible refine we_rev ?_
  | with_reducible refine we_enum ?_
  | with_reducible refine we_args ?_
  | with_reducible refine we_lc ?_
  | with_reducible refine ws_seq ?_
  | with_reducible refine ws_pass ?_
  | with_reducible refine ws_expr ?_
  | with_reducible refine ws_ite ?_
  | with_reducible refine ws_asg ?_
  | with_reducible refine ws_sto_sh ?_
  | with_reducible refine ws_sto_nw ?_
  | with_reducible refine ws_sto_at ?_
  | with_reducible refine ws_asgT ?_
  | with_reducible refine ws_ret ?_
  | with_reducible refine ws_retN ?_
  | with_reducible refine ws_for ?_
  | with_reducible refine ws_brk ?_
  | with_reducible refine ws_cont ?_
  | with_reducible refine we_rv_sh ?_
  | with_reducible refine we_rv_nw ?_
  | with_reducible refine ws_setIx ?_
  | with_reducible refine ws_par ?_
  | with_reducible refine we_dget ?_
  | with_reducible refine we_chain ?_
  | with_reducible refine we_disp1 ?_
  | with_reducible refine ws_rr1 ?_
  | with_reducible refine ws_retS ?_
  | with_reducible refine we_pure' ?_
  | with_reducible refine we_mk1 ?_
  | with_reducible refine we_methP ?_
  | with_reducible refine ws_rr0 ?_
  | ((with_reducible apply we_sh); exact rfl)
  | ((with_reducible apply we_ow); exact rfl)
  | ((with_reducible apply we_shr_ats); exact rfl)
  | ((with_reducible apply we_shr_at); exact rfl)
  | ((with_reducible apply we_rv_ats); exact rfl)
  | ((with_reducible apply we_rv_new); exact rfl)
  | ((with_reducible apply we_rv_par); exact rfl)
  | ((with_reducible apply we_use1); exact rfl; exact rfl)
  | ((with_reducible apply we_useL); exact rfl; exact rfl)
  | ((with_reducible apply we_useU); exact rfl; exact rfl)
  | ((with_reducible apply we_use3); exact rfl; exact rfl; exact rfl; exact rfl)
  | ((with_reducible apply we_use2); exact rfl; exact rfl; exact rfl)
  | ((with_reducible apply we_useM); exact rfl; exact rfl; exact rfl)
  | ((with_reducible apply ws_setL); exact rfl; exact rfl; exact rfl)
  | ((with_reducible apply we_use2); exact rfl; exact rfl; exact opMod_ok (by decide))
  | ((with_reducible apply we_use2); exact rfl; exact rfl; exact opFdiv_ok (by decide) (by decide))
  | ((with_reducible apply we_use2); exact rfl; exact rfl; exact opMul_r (by decide))
  | ((with_reducible apply we_use2); exact rfl; exact rfl; exact opMul_l (by decide))
  | ((with_reducible apply we_useL); exact rfl; exact opLen_str (by walk_at "ln"))
  | ((with_reducible apply we_use1); exact rfl; exact opRev_str (by walk_at "ln"))
  | ((with_reducible apply we_use2); exact rfl; exact rfl; exact opAdd_str (by walk_at "ln"))
  | ((with_reducible apply we_use2); exact rfl; exact rfl; exact opEq_ok (by walk_at "ok") (by walk_at "ok"))
  | ((with_reducible apply we_use2); exact rfl; exact rfl; exact opNe_ok (by walk_at "ok") (by walk_at "ok"))
  | refine ⟨_, rngD1_ok (by omega) (by omega), ?_⟩
  | refine ⟨_, rngD2_ok (by omega) (by omega) (by omega) (by omega), ?_⟩
  | refine ⟨_, _, rfl, rfl, ?_⟩
  | refine ⟨_, rfl, rfl, ?_⟩
  | refine ⟨rfl, _, rfl, ?_⟩
  | refine ⟨_, rfl, ?_⟩
  | refine And.intro (by decide : _ ≤ big) ?_)
local macro_rules | `(tactic| walk_at "zn0") => `(tactic| simp only [List.set_cons_zero, List.set_cons_succ, List.cons_append, List.nil_append, List.replicate, List.length_cons, List.length_nil, List.take_succ_cons, List.take_zero, updS, newAt_eq, newG_none, newG_no, newG_sh, newG_owt, newG_oo, newG_os, newG_on, findAt_nil, eqD_str, decide_true, decide_false, reduceCtorEq, eqD_lnil, eqD_tnil, List.map_nil, eqD_true_true, eqD_true_false, eqD_false_true, eqD_false_false, findAt_at, findAt_sh, findAt_nw, anyT_NoneType, subD_NoneType_bool, subD_NoneType_int, subD_NoneType_str, subD_NoneType_tuple, subD_NoneType_list, anyT_bool, subD_bool_bool, subD_bool_int, subD_bool_str, subD_bool_tuple, subD_bool_list, anyT_int, subD_int_bool, subD_int_int, subD_int_str, subD_int_tuple, subD_int_list, anyT_str, subD_str_bool, subD_str_int, subD_str_str, subD_str_tuple, subD_str_list, anyT_tuple, subD_tuple_bool, subD_tuple_int, subD_tuple_str, subD_tuple_tuple, subD_tuple_list, anyT_list, subD_list_bool, subD_list_int, subD_list_str, subD_list_tuple, subD_list_list, wipeE, fz_sh, fz_nw, fz_at, Int.reduceToNat, List.headD_cons, List.tail_cons, reduceIte, Nat.reduceAdd, Nat.reduceSub, Nat.reduceEqDiff, Nat.zero_add, Nat.succ_ne_self, if_true, if_false, Option.bind_some, reduceCtorEq, false_implies, true_implies, true_and, and_true, Bool.not_true, Bool.not_false, Bool.false_eq_true, Bool.true_eq_false])
local macro_rules | `(tactic| walk_at "zn") => `(tactic| try walk_at "zn0")
local macro_rules | `(tactic| walk_at "z") => `(tactic| repeat' first | walk_at "ze" | walk_at "zn0")
local macro_rules | `(tactic| walk_at "y") => `(tactic| repeat' first | walk_at "ye" | walk_at "zn0")
namespace T
theorem law_contrary_ok {c : Nat} (h : c ∈ lets) {Q : Va → Ev → Prop} (k : Q (.sh (.str [inv c])) [.sh true (.str [c])]) : WF f_law_contrary [.sh true (.str [c])] Q := by
  refine wf_of ?_
  walk_at "zn"
  unfold m_law_contrary
  walk_at "z"
  rw [islower1 (lets_lt h)]
  refine ⟨fun e => ?_, fun e => ?_⟩
  · walk_at "z"
    rw [upper1 (lets_lt h)]
    have e := of_decide_eq_true e
    rw [if_pos e]
    have : inv c = c - 32 := by unfold inv; rw [if_pos e.1]
    rw [this] at k; exact k
  · walk_at "z"
    rw [lower1 (lets_lt h)]
    have e := of_decide_eq_false e
    have e2 : 65 ≤ c ∧ c ≤ 90 ∧ ¬ 97 ≤ c := by
      rcases lets_cases h with rfl | rfl | rfl | rfl | rfl | rfl | rfl | rfl <;> first | (exfalso; exact e (by decide)) | decide
    rw [if_pos ⟨e2.1, e2.2.1⟩]
    have : inv c = c + 32 := by unfold inv; rw [if_neg e2.2.2]
    rw [this] at k; exact k
theorem law_pick_ok {d : D} (hd : Flow d) {many : Int} (h0 : 0 < many) (h1 : many < 1073741824) {Q : Va → Ev → Prop} (k : ∀ d' r, Flow d' → 0 ≤ r → r < many → Q (.sh (.int r)) [.ow true false d', .sh true (.int many)]) : WF f_law_pick [.ow true false d, .sh true (.int many)] Q := by
  obtain ⟨cells, p, x, s, c, rfl, hp, hx, hs, hs2⟩ := hd
  refine wf_of ?_
  walk_at "zn"
  unfold m_law_pick
  refine ws_seq ?_
  refine ws_mid (fun ρ => ∃ (cells : List Int) (p x s c : Int) (e2 e3 : Sl), ρ = [.ow true false (.lst [.lst (cells.map .int), .int p, .int x, .int s, .int c]), .sh true (.int many), e2, e3] ∧ 0 ≤ p ∧ 0 ≤ x ∧ 0 ≤ s ∧ s < 2147483647) ?_ ?_
  · walk_at "z"
    refine ⟨fun e => ?_, fun e => ?_⟩
    · walk_at "z"
      refine ⟨fun e2 => ?_, fun e2 => ?_⟩
      · have e2 : p < (cells.map D.int).length := of_decide_eq_true e2
        obtain ⟨cell, hc, hm⟩ := atI_lt hp e2
        obtain ⟨n, _, rfl⟩ := List.mem_map.mp hm
        walk_at "z"
        refine we_use2 rfl rfl (opIx_lst hc) ?_
        walk_at "z"
        refine ⟨fun e3 => ?_, fun e3 => ?_⟩
        · have e3 : (10 : Int) ^ (18 : Int).toNat ≤ n := of_decide_eq_true e3
          walk_at "z"
          walk_at "zn"
          have : (0 : Int) ≤ 10 ^ (18 : Int).toNat := by decide
          exact ⟨cells, p + 1, n, s, c, _, _, rfl, by omega, by omega, hs, hs2⟩
        · walk_at "z"
          walk_at "zn"
          exact ⟨cells, p + 1, x, _, c, _, _, rfl, by omega, hx, Int.emod_nonneg _ (by decide), Int.emod_lt_of_pos _ (by decide)⟩
      · walk_at "z"
        exact ⟨cells, p, x, s, c, _, _, rfl, hp, hx, hs, hs2⟩
    · walk_at "z"
      exact ⟨cells, p, x, s, c, _, _, rfl, hp, hx, hs, hs2⟩
  · clear hp hx hs hs2
    rintro ρ ⟨cells, p, x, s, c, e2, e3, rfl, hp, hx, hs, hs2⟩
    walk_at "z"
    refine ⟨fun e => ?_, fun e => ?_⟩
    · have e : 0 < x := of_decide_eq_true e
      walk_at "z"
      refine we_use2 rfl rfl (opMod_ok h0) ?_
      walk_at "z"
      walk_at "zn"
      walk_at "z"
      refine we_use2 rfl rfl (opFdiv_ok h0 h1) ?_
      walk_at "z"
      exact k _ _ ⟨cells, p, x / many, s, c, rfl, hp, Int.ediv_nonneg hx (Int.le_of_lt h0), hs, hs2⟩ (Int.emod_nonneg _ (by omega)) (Int.emod_lt_of_pos _ h0)
    · walk_at "z"
      walk_at "zn"
      walk_at "z"
      walk_at "zn"
      walk_at "z"
      have m1 := Int.emod_nonneg ((s * 48271 + 12820163 + (c + 1)) % 2147483647) (show (65521 : Int) ≠ 0 by decide)
      have m2 := Int.emod_lt_of_pos ((s * 48271 + 12820163 + (c + 1)) % 2147483647) (show (0 : Int) < 65521 by decide)
      refine we_use2 rfl rfl (opMul_l (small_ok (by omega) (by omega))) ?_
      walk_at "z"
      refine we_use2 rfl rfl (opMod_ok h0) ?_
      walk_at "z"
      exact k _ _ ⟨cells, p, x, _, _, rfl, hp, hx, Int.emod_nonneg _ (by decide), Int.emod_lt_of_pos _ (by decide)⟩ (Int.emod_nonneg _ (by omega)) (Int.emod_lt_of_pos _ h0)
theorem law_flow_ok {ns : List Int} {Q : Va → Ev → Prop} (k : ∀ d, Flow d → Q (.nw d) [.sh true (.scr (ns.map .int))]) : WF f_law_flow [.sh true (.scr (ns.map .int))] Q := by
  refine wf_of ?_
  walk_at "zn"
  unfold m_law_flow
  walk_at "z"
  exact k _ ⟨ns, 0, 0, 1, 0, rfl, by decide, by decide, by decide, by decide⟩
theorem law_letters_ok {n : Int} (h : 1 ≤ n) (h' : n ≤ 4) {Q : Va → Ev → Prop} (k : Q (.nw (.lst (chars (Ln n)))) [.sh true (.int n)]) : WF f_law_letters [.sh true (.int n)] Q := by
  refine wf_of ?_
  walk_at "zn"
  unfold m_law_letters
  rcases four h h' with rfl | rfl | rfl | rfl <;> (walk_at "z"; exact k)
theorem contrary_ok {c : Nat} (h : c ∈ lets) {Q : Va → Ev → Prop} (k : Q (.sh (.str [inv c])) [.sh true (.str [c])]) : WF f_contrary [.sh true (.str [c])] Q := law_contrary_ok h k
theorem letters_of_ok {n : Int} (h : 1 ≤ n) (h' : n ≤ 4) {Q : Va → Ev → Prop} (k : Q (.sh (.tup (chars (Ln n)))) [.sh true (.int n)]) : WF f_letters_of [.sh true (.int n)] Q := by
  refine wf_of ?_
  walk_at "zn"
  unfold m_letters_of
  rcases four h h' with rfl | rfl | rfl | rfl <;> walk_at "z" <;> exact k
/-- data without dicts, all the way down -/
def nice : Nat → D → Bool
  | 0, _ => false
  | n + 1, .tup l => decide (l.length ≤ big) && l.all (nice n)
  | n + 1, .lst l => decide (l.length ≤ big) && l.all (nice n)
  | _ + 1, .str s => okD 64 (.str s)
  | _ + 1, .int _ => true
  | _ + 1, .bl _ => true
  | _ + 1, .non => true
  | _ + 1, _ => false
theorem law_alike_gen : ∀ (n : Nat) {d : D}, nice n d = true → ∀ {Q : Va → Ev → Prop}, Q (.sh (.bl true)) [.sh true d, .sh true d] → WF (f_law_alike n) [.sh true d, .sh true d] Q
  | n + 1, d, hd, Q, k => by
    refine wf_of ?_
    walk_at "zn"
    unfold m_law_alike
    cases d with
    | tup l =>
      simp only [nice, Bool.and_eq_true, decide_eq_true_eq, List.all_eq_true] at hd
      obtain ⟨hl, ha⟩ := hd
      have hl2 : l.length ≤ 16777216 := hl
      walk_at "z"
      refine ⟨?_, ?_⟩ <;> intro z <;> rw [eqD_int, decide_eq_true rfl] at z <;> cases z
      walk_at "z"
      walk_at "zn"
      refine we_lcGo (fun i acc ρ => acc = List.replicate i (.bl true) ∧ ρ = [.sh true (.tup l), .sh true (.tup l), .no]) ⟨rfl, rfl⟩ ?_ ?_
      · rintro i x acc ρ e ⟨rfl, rfl⟩
        obtain ⟨rfl, hi⟩ := rngL_get e
        have hi : i < l.length := by omega
        refine ⟨_, rfl, ⟨⟨fun _ => ?_, fun z => by cases z⟩⟩⟩
        walk_at "z"
        have hx : atI l (0 + (i : Int)) = some l[i] := atI_nn (by omega) (by rw [show ((0 : Int) + (i : Int)).toNat = i by omega]; exact List.getElem?_eq_getElem hi)
        refine we_use2 rfl rfl (opIx_tup hx) ?_
        walk_at "z"
        refine we_use2 rfl rfl (opIx_tup hx) ?_
        walk_at "z"
        refine law_alike_gen n (ha _ (List.getElem_mem hi)) ?_
        walk_at "z"
        exact ⟨by rw [List.length_replicate]; unfold big; omega, List.replicate_succ'.symm⟩
      · rintro acc ρ ⟨rfl, rfl⟩
        rw [rngL_len]
        walk_at "z"
        refine we_useL rfl (opAll_rep _) ?_
        walk_at "z"
        exact k
    | lst l =>
      simp only [nice, Bool.and_eq_true, decide_eq_true_eq, List.all_eq_true] at hd
      obtain ⟨hl, ha⟩ := hd
      have hl2 : l.length ≤ 16777216 := hl
      walk_at "z"
      refine ⟨?_, ?_⟩ <;> intro z <;> rw [eqD_int, decide_eq_true rfl] at z <;> cases z
      walk_at "z"
      walk_at "zn"
      refine we_lcGo (fun i acc ρ => acc = List.replicate i (.bl true) ∧ ρ = [.sh true (.lst l), .sh true (.lst l), .no]) ⟨rfl, rfl⟩ ?_ ?_
      · rintro i x acc ρ e ⟨rfl, rfl⟩
        obtain ⟨rfl, hi⟩ := rngL_get e
        have hi : i < l.length := by omega
        refine ⟨_, rfl, ⟨⟨fun _ => ?_, fun z => by cases z⟩⟩⟩
        walk_at "z"
        have hx : atI l (0 + (i : Int)) = some l[i] := atI_nn (by omega) (by rw [show ((0 : Int) + (i : Int)).toNat = i by omega]; exact List.getElem?_eq_getElem hi)
        refine we_use2 rfl rfl (opIx_lst hx) ?_
        walk_at "z"
        refine we_use2 rfl rfl (opIx_lst hx) ?_
        walk_at "z"
        refine law_alike_gen n (ha _ (List.getElem_mem hi)) ?_
        walk_at "z"
        exact ⟨by rw [List.length_replicate]; unfold big; omega, List.replicate_succ'.symm⟩
      · rintro acc ρ ⟨rfl, rfl⟩
        rw [rngL_len]
        walk_at "z"
        refine we_useL rfl (opAll_rep _) ?_
        walk_at "z"
        exact k
    | str s =>
      walk_at "z"
      refine we_use2 rfl rfl (opEq_ok hd hd) ?_
      walk_at "z"
      exact k
    | int i =>
      walk_at "z"
      rw [eqD_int, decide_eq_true rfl]
      exact k
    | bl b => cases b <;> walk_at "z" <;> exact k
    | non =>
      walk_at "z"
      exact k
    | dic l => cases hd
    | scr l => cases hd
    | x0 c => cases hd
    | ttp c => cases hd
    | x1 c f e => cases hd
theorem nice_chars {w : List Nat} (h : Lw w) (hl : w.length ≤ 16770000) (n : Nat) : nice (n + 2) (.tup (chars w)) = true := by
  simp only [nice, Bool.and_eq_true, decide_eq_true_eq, List.all_eq_true]
  refine ⟨by rw [chars_len]; unfold big; omega, fun x hx => ?_⟩
  obtain ⟨c, hc, rfl⟩ := chars_mem hx
  exact (Lw.one (h c hc)).ok
theorem lw_lows {n : Int} : Lw (lows n) := fun c hc => by
  have := List.mem_of_mem_take hc
  simp only [List.mem_cons, List.not_mem_nil, or_false] at this
  rcases this with rfl | rfl | rfl | rfl <;> decide
theorem law_drawn_change_ok {d : D} {n : Int} (hd : Flow d) (h : 1 ≤ n) (h' : n ≤ 4) {Q : Va → Ev → Prop} (k : ∀ d' b sd, Flow d' → Chg n b sd → Q (.sh (chgD b sd)) [.ow true false d', .sh true (.int n)]) : WF f_law_drawn_change [.ow true false d, .sh true (.int n)] Q := by
  refine wf_of ?_
  walk_at "zn"
  unfold m_law_drawn_change
  walk_at "z"
  refine law_letters_ok h h' ?_
  walk_at "z"
  refine law_pick_ok hd (by omega) (by omega) fun d2 r hd2 r0 r1 => ?_
  walk_at "z"
  have hr : r < (chars (Ln n)).length := by rw [chars_len, Ln_len h h']; omega
  obtain ⟨x, hx, hm⟩ := atI_lt r0 hr
  obtain ⟨b, hb, rfl⟩ := chars_mem hm
  have hbl := Ln_lw n b hb
  refine we_use2 rfl rfl (opIx_lst hx) ?_
  walk_at "z"
  refine law_letters_ok h h' ?_
  walk_at "z"
  refine ws_loopX (xs := Ln n) (g := fun c => .str [c]) (fun pre ρ => ∃ (d : D) (sd : List Nat) (s4 : Sl), Flow d ∧ sd.Sublist pre ∧ (b ∈ pre → b ∈ sd) ∧ inv b ∉ sd ∧ ρ = [.ow true false d, .sh true (.int n), .sh false (.str [b]), .ow false false (.lst (chars sd)), s4]) ⟨d2, [], _, hd2, List.Sublist.refl _, (fun hb => by cases hb), (by simp), rfl⟩ ?_ ?_
  · rintro pre o post ρ e ⟨d3, sd, s4, hd3, hs1, hs2, hs3, rfl⟩
    have hol : o ∈ lets := Ln_lw n o (by rw [e]; simp)
    have hl8 : sd.length ≤ 8 := by
      have h1 := hs1.length_le
      have h2 := Ln_len8 n
      rw [e] at h2; simp at h2; omega
    have app : ∀ {d4 : D}, Flow d4 → o ≠ inv b → WS (MS.expr (M.mut opAppend (M.var 3) (M.cons (M.var 4) M.nil))) [.ow true false d4, .sh true (.int n), .sh false (.str [b]), .ow false false (.lst (chars sd)), .sh false (.str [o])] (fun ρ => ∃ (d : D) (sd : List Nat) (s4 : Sl), Flow d ∧ sd.Sublist (pre ++ [o]) ∧ (b ∈ pre ++ [o] → b ∈ sd) ∧ inv b ∉ sd ∧ ρ = [.ow true false d, .sh true (.int n), .sh false (.str [b]), .ow false false (.lst (chars sd)), s4]) (fun s ρ => Q s (ρ.take 2)) (fun ρ => ∃ (d : D) (sd : List Nat) (s4 : Sl), Flow d ∧ sd.Sublist (pre ++ [o]) ∧ (b ∈ pre ++ [o] → b ∈ sd) ∧ inv b ∉ sd ∧ ρ = [.ow true false d, .sh true (.int n), .sh false (.str [b]), .ow false false (.lst (chars sd)), s4]) (fun ρ1 => WS (MS.ret (M.tupOf (M.cons (M.var 2) (M.cons (M.blt opTuple (M.cons (M.var 3) M.nil)) M.nil)))) ρ1 (fun ρ => Q (.sh .non) (ρ.take 2)) (fun s ρ => Q s (ρ.take 2)) (fun _ => False) fun _ => False) := by
      intro d4 hd4 hne
      walk_at "z"
      refine we_useU rfl (opAppend_ok (by rw [chars_len]; unfold big; omega)) ?_
      walk_at "z"
      refine ⟨d4, sd ++ [o], _, hd4, hs1.append (List.Sublist.refl _), fun hb => ?_, fun hb => ?_, by simp; exact rfl⟩
      · rcases List.mem_append.mp hb with hb | hb
        · exact List.mem_append_left _ (hs2 hb)
        · exact List.mem_append_right _ hb
      · rcases List.mem_append.mp hb with hb | hb
        · exact hs3 hb
        · exact hne (List.mem_singleton.mp hb).symm
    have skip : ∀ {d4 : D} {s : Sl}, Flow d4 → b ≠ o → ∃ (d : D) (sd' : List Nat) (s4 : Sl), Flow d ∧ sd'.Sublist (pre ++ [o]) ∧ (b ∈ pre ++ [o] → b ∈ sd') ∧ inv b ∉ sd' ∧ [Sl.ow true false d4, .sh true (.int n), .sh false (.str [b]), .ow false false (.lst (chars sd)), s] = [.ow true false d, .sh true (.int n), .sh false (.str [b]), .ow false false (.lst (chars sd')), s4] := by
      intro d4 s hd4 hne
      refine ⟨d4, sd, s, hd4, hs1.trans (List.sublist_append_left _ _), fun hb => ?_, hs3, rfl⟩
      rcases List.mem_append.mp hb with hb | hb
      · exact hs2 hb
      · exact absurd (List.mem_singleton.mp hb) hne
    refine ⟨_, rfl, ?_⟩
    walk_at "z"
    refine ⟨fun z => ?_, fun z => ?_⟩
    · have z : [o] = [b] := of_decide_eq_true z
      have z : o = b := by simpa using z
      exact app hd3 fun e => inv_ne hbl (by rw [← e, z])
    · have z : ¬ [o] = [b] := of_decide_eq_false z
      have z : ¬ b = o := fun e => z (by rw [e])
      walk_at "z"
      refine law_contrary_ok hbl ?_
      walk_at "z"
      refine ⟨fun z2 => ?_, fun z2 => ?_⟩
      · have z2 : ¬ [o] = [inv b] := of_decide_eq_false (by simpa using z2)
        have z2 : o ≠ inv b := fun e => z2 (by rw [e])
        walk_at "z"
        refine law_pick_ok hd3 (by decide) (by decide) fun d4 r4 hd4 _ _ => ?_
        walk_at "z"
        refine ⟨fun _ => app hd4 z2, fun _ => ?_⟩
        walk_at "z"
        exact skip hd4 z
      · walk_at "z"
        exact skip hd3 z
  · rintro ρ ⟨d3, sd, s4, hd3, hs1, hs2, hs3, rfl⟩
    walk_at "z"
    exact k d3 b sd hd3 ⟨hb, hs1, hs2 hb, hs3⟩
theorem law_exchange_ok {d : D} {n : Int} (hd : Flow d) (h : 1 ≤ n) (h' : n ≤ 4) {Q : Va → Ev → Prop} (k : ∀ d' e, Flow d' → Exg n e → Q (.sh (.tup (chars e))) [.ow true false d', .sh true (.int n)]) : WF f_law_exchange [.ow true false d, .sh true (.int n)] Q := by
  refine wf_of ?_
  walk_at "zn"
  unfold m_law_exchange
  walk_at "z"
  have hls : cutD [97, 98, 99, 100] none (some n) = lows n := by rw [cut_take _ (by omega)]; rfl
  rw [hls]
  have hll := lows_len4 n
  have hlc : (lows n).length = n.toNat := by rcases four h h' with rfl | rfl | rfl | rfl <;> rfl
  refine we_useL rfl (opList_str (by unfold big; omega)) ?_
  walk_at "z"
  refine ws_loop (fun i ρ => ∃ (d : D) (left found : List Nat) (s4 s5 : Sl), Flow d ∧ left.length + i = n.toNat ∧ found.length = i ∧ (∀ c ∈ left, c ∈ lows n) ∧ Lw found ∧ (found.map li ++ left.map li).Perm (List.range n.toNat) ∧ ρ = [.ow true false d, .sh true (.int n), .ow false false (.lst (chars left)), .ow false false (.lst (chars found)), s4, s5]) ⟨d, lows n, [], _, _, hd, by omega, rfl, (fun c hc => hc), Lw.nil, ?_, rfl⟩ ?_ ?_
  · rcases four h h' with rfl | rfl | rfl | rfl <;> exact List.Perm.refl _
  · rintro i x ρ e ⟨d2, left, found, s4, s5, hd2, hl1, hl2, hlow, hfw, hperm, rfl⟩
    obtain ⟨rfl, hi⟩ := rngL_get e
    have hpos : 0 < left.length := by omega
    refine ⟨_, rfl, ?_⟩
    walk_at "z"
    refine law_pick_ok hd2 (by rw [chars_len]; omega) (by rw [chars_len]; omega) fun d3 r hd3 r0 r1 => ?_
    rw [chars_len] at r1
    walk_at "z"
    have hr : r.toNat < left.length := by omega
    have hg : (chars left)[r.toNat]? = some (.str [left[r.toNat]]) := by unfold chars; rw [List.getElem?_map, List.getElem?_eq_getElem hr]; rfl
    refine we_useU rfl (opPop_at r0 (by rw [chars_len]; unfold big; omega) hg) ?_
    rw [chars_erase]
    have hpm := erase_perm hr
    have hel : (left.eraseIdx r.toNat).length + 1 = left.length := by rw [List.length_eraseIdx, if_pos hr]; omega
    have hcm : left[r.toNat] ∈ left := List.getElem_mem hr
    have hsub : ∀ c ∈ left.eraseIdx r.toNat, c ∈ left := fun c hc => List.mem_of_mem_eraseIdx hc
    generalize left[r.toNat] = c at *
    generalize left.eraseIdx r.toNat = left2 at *
    have hcl := lw_lows (n := n) c (hlow c hcm)
    walk_at "z"
    refine law_pick_ok hd3 (by decide) (by decide) fun d4 q hd4 q0 q1 => ?_
    walk_at "z"
    obtain ⟨u, hu, hlu⟩ : ∃ u : Nat, (Txt.upper (S [c])).cps.toList = [u] ∧ u = c - 32 := by
      refine ⟨c - 32, ?_, rfl⟩
      rw [upper1 (lets_lt hcl), if_pos]
      rcases mem_low (hlow c hcm) with rfl | rfl | rfl | rfl <;> decide
    rw [hu]
    have hul : u ∈ lets ∧ li u = li c := by
      subst hlu
      rcases mem_low (hlow c hcm) with rfl | rfl | rfl | rfl <;> decide
    obtain ⟨y, hy, hyl, hyi⟩ : ∃ y : Nat, opIx (.lst [.str [c], .str [u]]) (.int q) = some (.sh (.str [y])) ∧ y ∈ lets ∧ li y = li c := by
      have : q = 0 ∨ q = 1 := by omega
      rcases this with rfl | rfl
      · exact ⟨c, rfl, hcl, rfl⟩
      · exact ⟨u, rfl, hul.1, hul.2⟩
    refine we_use2 rfl rfl hy ?_
    walk_at "z"
    refine we_useU rfl (opAppend_ok (by rw [chars_len]; unfold big; omega)) ?_
    walk_at "z"
    refine ⟨d4, left2, found ++ [y], _, _, hd4, by omega, by simp [hl2], fun x hx => hlow x (hsub x hx), hfw.app (Lw.one hyl), ?_, by simp; exact ⟨rfl, rfl⟩⟩
    refine List.Perm.trans ?_ hperm
    rw [List.map_append, List.append_assoc]
    refine List.Perm.append_left _ ?_
    have := hpm.map li
    rw [List.map_cons] at this
    simpa [hyi] using this
  · rintro ρ ⟨d2, left, found, s4, s5, hd2, hl1, hl2, hlow, hfw, hperm, rfl⟩
    rw [rngL_len] at hl1
    have : left = [] := List.eq_nil_of_length_eq_zero (by omega)
    subst this
    walk_at "z"
    exact k d2 found hd2 ⟨hfw, by simpa using hperm⟩
theorem law_drawn_step_ok {d : D} {n : Int} (hd : Flow d) (h : 1 ≤ n) (h' : n ≤ 4) {Q : Va → Ev → Prop} (k : ∀ d' s, Flow d' → StepOk n s → Q (.sh (stepD s)) [.ow true false d', .sh true (.int n)]) : WF f_law_drawn_step [.ow true false d, .sh true (.int n)] Q := by
  refine wf_of ?_
  walk_at "zn"
  unfold m_law_drawn_step
  walk_at "z"
  refine law_pick_ok hd (by decide) (by decide) fun d2 r hd2 _ _ => ?_
  walk_at "z"
  refine ⟨fun _ => ?_, fun _ => ?_⟩
  · walk_at "z"
    refine law_exchange_ok hd2 h h' fun d3 e hd3 he => ?_
    walk_at "z"
    exact k d3 (.exc e) hd3 he
  · walk_at "z"
    refine law_drawn_change_ok hd2 h h' fun d3 b sd hd3 hc => ?_
    unfold chgD
    walk_at "z"
    exact k d3 (.chg b sd) hd3 hc
theorem nice_step {n : Int} {s : Stp} (h : 1 ≤ n) (h' : n ≤ 4) (hs : StepOk n s) (m : Nat) : nice (m + 4) (stepD s) = true := by
  have hc : ∀ w : List Nat, Lw w → w.length ≤ 16770000 → nice (m + 3) (.tup (chars w)) = true := fun w a b => nice_chars a b (m + 1)
  cases s with
  | chg b sd =>
    have hs : Chg n b sd := hs
    have h1 := hc sd hs.lw (Nat.le_trans hs.len (by decide))
    have h2 : nice (m + 3) (.str [b]) = true := by unfold nice; exact Lw.ok (Lw.one (Ln_lw n b hs.bn))
    have h3 : nice (m + 3) (.str [99, 104, 97, 110, 103, 101]) = true := by unfold nice; rfl
    unfold stepD
    rw [nice]
    simp only [List.all_cons, List.all_nil, h1, h2, h3, Bool.and_true]
    rfl
  | exc e =>
    have hs : Exg n e := hs
    have hl := hs.len h
    have h1 := hc e hs.lw (by omega)
    have h3 : nice (m + 3) (.str [101, 120, 99, 104, 97, 110, 103, 101]) = true := by unfold nice; rfl
    unfold stepD
    rw [nice]
    simp only [List.all_cons, List.all_nil, h1, h3, Bool.and_true]
    rfl
theorem nice_road {n : Int} {ss : List Stp} (h : 1 ≤ n) (h' : n ≤ 4) (hs : ∀ s ∈ ss, StepOk n s) (hl : ss.length ≤ 1000) (m : Nat) : nice (m + 5) (.tup (ss.map stepD)) = true := by
  rw [nice]
  rw [Bool.and_eq_true]
  refine ⟨decide_eq_true (by rw [List.length_map]; unfold big; omega), List.all_eq_true.mpr fun d hd => ?_⟩
  obtain ⟨s, m', rfl⟩ := List.mem_map.mp hd
  exact nice_step h h' (hs s m') m
theorem nice_chgD {n : Int} {b : Nat} {sd : List Nat} (h : 1 ≤ n) (h' : n ≤ 4) (g : Chg n b sd) (m : Nat) : nice (m + 4) (chgD b sd) = true := by
  have h1 := g.sub.length_le
  have h2 := Ln_len h h'
  have h3 := nice_chars (w := sd) (fun c hc => Ln_lw n c (g.sub.subset hc)) (by omega) (m + 1)
  have h4 : nice (m + 3) (.str [b]) = true := Lw.ok (Lw.one (Ln_lw n b g.bn))
  unfold chgD nice
  simp only [List.all_cons, List.all_nil, Bool.and_true, Bool.and_eq_true]
  exact ⟨decide_eq_true (by simp [big]), h4, h3⟩
theorem letters_of__t_ok {n : Int} (h : 1 ≤ n) (h' : n ≤ 4) {Q : Va → Ev → Prop} (k : Q (.sh (.ttp ((Ln n).map fun c => [c]))) [.sh true (.int n)]) : WF f_letters_of__t [.sh true (.int n)] Q := by
  refine wf_of ?_
  walk_at "zn"
  unfold m_letters_of__t
  rcases four h h' with rfl | rfl | rfl | rfl <;> (walk_at "z"; exact k)
def Lt (n : Int) : List (List Nat) := (Ln n).map fun c => [c]
def chD (l : List Nat) (ws : List (List Nat)) : D := .tup [.str l, .tup (ws.map .str)]
def Ok (n : Int) (c : Nat) (ws : List (List Nat)) : Prop := [c] ∈ ws ∧ [inv c] ∉ ws ∧ ws = (Lt n).filter fun w => decide (w ∈ ws)
theorem lt_nodup {n : Int} (h : 1 ≤ n) (h' : n ≤ 4) : (Lt n).Nodup := by
  rcases four h h' with rfl | rfl | rfl | rfl <;> decide
theorem in_strs (l : List Nat) (ws : List (List Nat)) : opIn (.str l) (.tup (ws.map .str)) = some (.sh (.bl (decide (l ∈ ws)))) := by
  have f : (ws.map D.str).all flatD = true := by rw [List.all_map]; exact List.all_eq_true.mpr fun _ _ => rfl
  unfold opIn inT
  simp only [f, flatD, Bool.and_self, if_true, inD_strs, Option.map_some]
theorem notIn_strs (l : List Nat) (ws : List (List Nat)) : opNotIn (.str l) (.tup (ws.map .str)) = some (.sh (.bl (!decide (l ∈ ws)))) := by
  have f : (ws.map D.str).all flatD = true := by rw [List.all_map]; exact List.all_eq_true.mpr fun _ _ => rfl
  unfold opNotIn inT
  simp only [f, flatD, Bool.and_self, if_true, inD_strs, Option.map_some]
theorem opAll_map {α : Type} (f : α → Bool) (l : List α) : opAll [.lst (l.map fun x => .bl (f x))] = some (.sh (.bl (l.all f))) := by
  have h : ∀ l : List α, allB (l.map fun x => D.bl (f x)) = some (l.map f) := by
    intro l
    induction l with
    | nil => rfl
    | cons a l ih => simp only [List.map_cons, allB, ih, Option.map_some]
  show (allB _).map _ = _
  rw [h, Option.map_some, List.all_map]
  rfl
theorem eqDs_ints : ∀ a b : List Int, eqDs (a.map .int) (b.map .int) = decide (a = b)
  | [], [] => rfl
  | [], _ :: _ => rfl
  | _ :: _, [] => rfl
  | x :: a, y :: b => by
    simp only [List.map_cons, eqDs, eqD_int, eqDs_ints a b]
    by_cases h : x = y <;> by_cases h2 : a = b <;> simp [h, h2]
theorem okD_ints (l : List Int) : okD 64 (.lst (l.map .int)) = true := by simp only [okD]; exact okDs_ints 63 l
theorem is_side_ok {n : Int} {c : Nat} {ws : List (List Nat)} (h : 1 ≤ n) (h' : n ≤ 4) (hc : c ∈ Ln n) (hl : ws.length < 64) {Q : Va → Ev → Prop} (k : ∀ b : Bool, (b = true ↔ Ok n c ws) → Q (.sh (.bl b)) [.sh true (.int n), .sh true (.str [c]), .sh true (.tup (ws.map .str))]) : WF f_is_side [.sh true (.int n), .sh true (.str [c]), .sh true (.tup (ws.map .str))] Q := by
  have hcl := Ln_lw n c hc
  have hbig : ws.length ≤ big := by unfold big; omega
  refine wf_of ?_
  walk_at "zn"
  unfold m_is_side
  walk_at "z"
  refine letters_of__t_ok h h' ?_
  walk_at "z"
  refine we_use2 rfl rfl (notIn_strs [c] ws) ?_
  walk_at "z"
  refine ⟨fun z => ?_, fun z => ?_⟩
  · have z : [c] ∉ ws := by simpa using z
    walk_at "z"
    exact k false ⟨fun y => (by cases y), fun y => absurd y.1 z⟩
  have z : [c] ∈ ws := by simpa using z
  walk_at "z"
  refine contrary_ok hcl ?_
  walk_at "z"
  refine we_use2 rfl rfl (in_strs [inv c] ws) ?_
  walk_at "z"
  refine ⟨fun z2 => ?_, fun z2 => ?_⟩
  · have z2 : [inv c] ∈ ws := of_decide_eq_true z2
    walk_at "z"
    exact k false ⟨fun y => (by cases y), fun y => absurd z2 y.2.1⟩
  have z2 : [inv c] ∉ ws := of_decide_eq_false z2
  walk_at "z"
  refine we_lcX (xs := ws) (g := D.str) (h := fun w => .bl (decide (w ∈ Lt n))) hbig (fun w hw => ⟨_, rfl, ?_⟩) ?_
  · walk_at "z"
    rfl
  walk_at "z"
  refine we_useL rfl (opAll_map (fun w => decide (w ∈ Lt n)) ws) ?_
  walk_at "z"
  refine ⟨fun z3 => ?_, fun z3 => ?_⟩
  · have z3 : ¬ ∀ w ∈ ws, w ∈ Lt n := fun g => by
      rw [List.all_eq_true.mpr fun w hw => decide_eq_true (g w hw)] at z3
      cases z3
    walk_at "z"
    refine k false ⟨fun y => (by cases y), fun y => absurd (fun w hw => ?_) z3⟩
    rw [y.2.2] at hw
    exact (List.mem_filter.mp hw).1
  have z3 : ∀ w ∈ ws, w ∈ Lt n := fun w hw => by
    have z3 : (ws.all fun w => decide (w ∈ Lt n)) = true := by simpa using z3
    exact of_decide_eq_true (List.all_eq_true.mp z3 w hw)
  walk_at "z"
  refine we_lcX (xs := ws) (g := D.str) (h := fun w => .int (ixL (Lt n) w)) hbig (fun w hw => ⟨_, rfl, ?_⟩) ?_
  · walk_at "z"
    refine we_useM rfl rfl (opPIndex_ok (z3 w hw)) ?_
    walk_at "z"
    rfl
  have e : (ws.map fun w => D.int (ixL (Lt n) w)) = (ws.map (ixL (Lt n))).map .int := by rw [List.map_map]; rfl
  rw [e]
  walk_at "z"
  refine we_use1 rfl (opSortSet_ok (by rw [List.length_map]; exact hl)) ?_
  walk_at "z"
  refine we_use2 rfl rfl (opEq_ok (okD_ints _) (okD_ints _)) ?_
  walk_at "z"
  refine k _ ?_
  have e2 : eqD (.lst ((ws.map (ixL (Lt n))).map .int)) (.lst ((usort (ws.map (ixL (Lt n)))).map .int)) = decide (ws.map (ixL (Lt n)) = usort (ws.map (ixL (Lt n)))) := by
    simp only [eqD]; exact eqDs_ints _ _
  rw [e2, decide_eq_true_eq]
  have si := side_iff (lt_nodup h h') z3
  refine ⟨fun y => ⟨z, z2, si.mp (by rw [y]; exact inc_usort _)⟩, fun y => (usort_self (si.mpr y.2.2)).symm⟩
theorem is_change_ok {n : Int} {c : Nat} {ws : List (List Nat)} (h : 1 ≤ n) (h' : n ≤ 4) (hc : c ∈ Ln n) (hl : ws.length < 64) {Q : Va → Ev → Prop} (k : ∀ b : Bool, (b = true ↔ Ok n c ws) → Q (.sh (.bl b)) [.sh true (.int n), .sh true (chD [c] ws)]) : WF f_is_change [.sh true (.int n), .sh true (chD [c] ws)] Q := by
  refine wf_of ?_
  walk_at "zn"
  unfold m_is_change
  walk_at "z"
  refine letters_of_ok h h' ?_
  walk_at "z"
  refine we_use2 rfl rfl (opIn_tchars c (Ln n)) ?_
  rw [decide_eq_true hc]
  walk_at "z"
  refine is_side_ok h h' hc hl fun b hb => ?_
  walk_at "z"
  exact k b hb
theorem ok_chg {n : Int} {b : Nat} {sd : List Nat} (g : Chg n b sd) : Ok n b (sd.map fun c => [c]) := by
  have e : sd = (Ln n).filter fun c => decide (c ∈ sd) := by
    have key : ∀ (l m : List Nat), l.Sublist m → m.Nodup → l = m.filter fun c => decide (c ∈ l) := by
      intro l m s
      induction s with
      | slnil => intro _; rfl
      | @cons l m a s ih =>
        intro nd
        obtain ⟨h1, h2⟩ := List.nodup_cons.mp nd
        rw [List.filter_cons, if_neg (by simpa using fun z => h1 (s.subset z))]
        exact ih h2
      | @cons_cons l m a s ih =>
        intro nd
        obtain ⟨h1, h2⟩ := List.nodup_cons.mp nd
        rw [List.filter_cons, if_pos (by simp)]
        have e := ih h2
        have e2 : (m.filter fun c => decide (c ∈ a :: l)) = m.filter fun c => decide (c ∈ l) := List.filter_congr fun x hx => by
          have : x ≠ a := fun z => h1 (z ▸ hx)
          simp [this]
        rw [e2, ← e]
    exact key sd (Ln n) g.sub (Ln_nodup n)
  refine ⟨List.mem_map.mpr ⟨b, g.own, rfl⟩, fun z => ?_, ?_⟩
  · obtain ⟨x, hx, e⟩ := List.mem_map.mp z
    cases e
    exact g.con hx
  · unfold Lt
    rw [List.filter_map]
    have : ((fun w => decide (w ∈ sd.map fun c => [c])) ∘ fun c => [c]) = fun c => decide (c ∈ sd) := by
      funext c
      show decide ([c] ∈ sd.map fun c => [c]) = decide (c ∈ sd)
      refine decide_eq_decide.mpr ⟨fun z => ?_, fun z => List.mem_map.mpr ⟨c, z, rfl⟩⟩
      obtain ⟨x, hx, e⟩ := List.mem_map.mp z
      cases e; exact hx
    rw [this, ← e]
theorem change_text_ok {b : Nat} {sd : List Nat} (hs : sd.length ≤ 8) {Q : Va → Ev → Prop} (k : Q (.sh (.str (rowX (chW b sd)))) [.sh true (.str [b]), .sh true (.tup (chars sd))]) : WF f_change_text [.sh true (.str [b]), .sh true (.tup (chars sd))] Q := by
  obtain ⟨t1, t2⟩ := chW_tot b sd
  have hadd : opAdd (.lst [.str [99, 104, 97, 110, 103, 101], .str [b], .str [58]]) (.lst (chars sd)) = some (.nw (.lst ((chW b sd).map D.str))) := by
    rw [opAdd_lst (by simp only [chars, List.length_map, List.length_cons, List.length_nil]; unfold big; omega)]
    unfold chW chars wCh
    rw [List.map_cons, List.map_cons, List.map_cons, List.map_map]; rfl
  have hj := opJoin_any (a := [32]) (us := chW b sd) (by
    have e : ((chW b sd).map List.length).sum = tot (chW b sd) := rfl
    rw [e, t1, t2]; simp only [List.length_cons, List.length_nil]; unfold big; omega)
  refine wf_of ?_
  walk_at "zn"
  unfold m_change_text
  walk_at "z"
  refine we_use2 rfl rfl hadd ?_
  walk_at "z"
  refine we_useM rfl rfl hj ?_
  walk_at "z"
  exact k
theorem step_text_ok {n : Int} {s : Stp} (h : 1 ≤ n) (h' : n ≤ 4) (hs : StepOk n s) {Q : Va → Ev → Prop} (k : Q (.sh (.str (rowX (stepW s)))) [.sh true (stepD s)]) : WF f_step_text [.sh true (stepD s)] Q := by
  refine wf_of ?_
  walk_at "zn"
  unfold m_step_text
  cases s with
  | chg b sd =>
    have hsl : sd.length ≤ 8 := Nat.le_trans hs.sub.length_le (Ln_len8 n)
    unfold stepD at k ⊢
    walk_at "z"
    refine change_text_ok hsl ?_
    walk_at "z"
    exact k
  | exc e =>
    have hel := Exg.len hs h
    obtain ⟨t1, t2⟩ := exW_tot e
    have hadd : opAdd (.lst [.str [101, 120, 99, 104, 97, 110, 103, 101]]) (.lst (chars e)) = some (.nw (.lst ((exW e).map D.str))) := by
      rw [opAdd_lst (by simp only [chars, List.length_map, List.length_cons, List.length_nil]; unfold big; omega)]
      unfold exW chars wEx
      rw [List.map_cons, List.map_map]; rfl
    have hj := opJoin_any (a := [32]) (us := exW e) (by
      have e : ((exW e).map List.length).sum = tot (exW e) := rfl
      rw [e, t1, t2]; simp only [List.length_cons, List.length_nil]; unfold big; omega)
    unfold stepD at k ⊢
    walk_at "z"
    refine ⟨fun z => absurd z (by decide), fun _ => ?_⟩
    walk_at "z"
    refine we_use2 rfl rfl hadd ?_
    walk_at "z"
    refine we_useM rfl rfl hj ?_
    walk_at "z"
    exact k
theorem flow_text_ok {n : Int} {f : List FEnt} (hf : ∀ x ∈ f, EntOk n x) (hl : f.length ≤ 1000) {Q : Va → Ev → Prop} (k : Q (.sh (.str (rowX (flW f)))) [.sh true (flD f)]) : WF f_flow_text [.sh true (flD f)] Q := by
  obtain ⟨t1, t2⟩ := flW_tot hf
  have hj := opJoin_any (a := [32]) (us := flW f) (by
    have e : ((flW f).map List.length).sum = tot (flW f) := rfl
    rw [e, t2]; simp only [List.length_cons, List.length_nil]; unfold big; omega)
  refine wf_of ?_
  walk_at "zn"
  unfold m_flow_text flD
  walk_at "z"
  refine ws_loopX (xs := f) (g := entD) (fun pre ρ => ∃ (s1 s2 s3 s4 : Sl), (s1 = .ow false false (.lst ((flW pre).map D.str)) ∨ s1 = .sh false (.lst ((flW pre).map D.str))) ∧ ρ = [.sh true (.tup (f.map entD)), s1, s2, s3, s4]) ⟨_, _, _, _, .inl rfl, rfl⟩ ?_ ?_
  · rintro pre x post ρ he ⟨s1, s2, s3, s4, hs1, rfl⟩
    have hx : x ∈ f := by rw [he]; simp
    have hlp : pre.length ≤ f.length := by rw [he]; simp
    obtain ⟨p1, p2⟩ := flW_tot (f := pre) fun y hy => hf y (by rw [he]; exact List.mem_append_left _ hy)
    have hstr := opStrI_int (by have := (hf x hx).lo; omega) (hf x hx).hi
    have hadd : opAdd (.lst ((flW pre).map D.str)) (.lst [.str [x.1], .str [x.2.1], .str (TL.numL x.2.2.toNat)]) = some (.nw (.lst ((flW (pre ++ [x])).map D.str))) := by
      rw [opAdd_lst (by rw [List.length_map, p2]; simp only [List.length_cons, List.length_nil]; unfold big; omega)]
      unfold flW
      rw [List.flatMap_append]
      simp [entW]
    have ex : entD x = .tup [.str [x.1], .str [x.2.1], .int x.2.2] := rfl
    rw [ex]
    generalize TL.numL x.2.2.toNat = v at hstr hadd
    generalize (flW pre).map D.str = L0 at hadd hs1
    generalize (flW (pre ++ [x])).map D.str = L1 at hadd ⊢
    refine ⟨_, rfl, ?_⟩
    rcases hs1 with rfl | rfl
    all_goals
      walk_at "z"
      refine we_useL rfl hstr ?_
      walk_at "z"
      refine we_use2 rfl rfl hadd ?_
      walk_at "z"
      exact ⟨_, _, _, _, .inl rfl, rfl⟩
  · rintro ρ ⟨s1, s2, s3, s4, hs1, rfl⟩
    rcases hs1 with rfl | rfl
    all_goals
      walk_at "z"
      refine we_useM rfl rfl hj ?_
      walk_at "z"
      exact k
theorem rows_of_ok {rows : List (List (List Nat))} (hr : ∀ ws ∈ rows, RwOk ws) (hl : (rowsJ rows).length ≤ 16770000) (hrl : ∀ ws ∈ rows, (rowX ws).length ≤ 16770000) {Q : Va → Ev → Prop} (k : Q (.nw (.lst (rows.map fun ws => .lst (ws.map D.str)))) [.sh true (.str (rowsJ rows))]) :
    WF f_rows_of [.sh true (.str (rowsJ rows))] Q := by
  refine wf_of ?_
  walk_at "zn"
  unfold m_rows_of
  by_cases e : rows = []
  · subst e
    have : rowsJ [] = [] := rfl
    rw [this] at k ⊢
    walk_at "z"
    exact k
  · have hne := rows_ne hr e
    have hok := (rows_asc hr).ok
    have hsp := rows_split hr e
    have hlen : rows.length ≤ 16770001 := by
      have := split_tot (rowsJ rows) 10
      rw [hsp, List.length_map] at this
      omega
    walk_at "z"
    refine we_use2 rfl rfl (opEq_ok hok rfl) ?_
    rw [eqD_str, decide_eq_false hne]
    walk_at "z"
    refine we_useM rfl rfl (opSplit_ok (by simp) (by unfold big; omega)) ?_
    rw [hsp, List.map_map]
    walk_at "z"
    refine we_lcX (xs := rows) (g := fun ws => D.str (rowX ws)) (h := fun ws => .lst (ws.map D.str)) (by unfold big; omega) (fun ws hw => ⟨_, rfl, ?_⟩) ?_
    · have h1 := hrl ws hw
      have h2 := rw_split (hr ws hw)
      walk_at "z"
      refine we_useM rfl rfl (opSplit_ok (by simp) (by unfold big; omega)) ?_
      rw [h2]
      walk_at "z"
    · walk_at "z"
      exact k
theorem look_change_ok {n : Int} {b : Nat} {sd : List Nat} (h : 1 ≤ n) (h' : n ≤ 4) (g : Chg n b sd) {Q : Va → Ev → Prop} (k : Q (.sh (.bl true)) [.sh true (.int n), .sh true (chgD b sd)]) : WF f_look_change [.sh true (.int n), .sh true (chgD b sd)] Q := by
  have hsl : sd.length ≤ 8 := Nat.le_trans g.sub.length_le (Ln_len8 n)
  have e : chgD b sd = chD [b] (sd.map fun c => [c]) := by unfold chgD chD; rw [List.map_map]; rfl
  have hni : opNotIn (.str [b]) (.tup (chars (Ln n))) = some (.sh (.bl false)) := by
    unfold opNotIn inT
    simp only [flat_chars, flatD, Bool.and_self, if_true, inD_chars, Option.map_some, decide_eq_true g.bn]; rfl
  have hix : opIx (chgD b sd) (.int 0) = some (.sh (.str [b])) := rfl
  have hic : ∀ Q : Va → Ev → Prop, Q (.sh (.bl true)) [.sh true (.int n), .sh true (chgD b sd)] → WF f_is_change [.sh true (.int n), .sh true (chgD b sd)] Q := fun Q k => by
    rw [e] at k ⊢
    refine is_change_ok h h' g.bn (by rw [List.length_map]; omega) fun v hv => ?_
    rw [hv.mpr (ok_chg g)]; exact k
  generalize chgD b sd = CD at hix hic k ⊢
  refine wf_of ?_
  walk_at "zn"
  unfold m_look_change
  walk_at "z"
  refine we_use2 rfl rfl hix ?_
  walk_at "z"
  refine letters_of_ok h h' ?_
  walk_at "z"
  refine we_use2 rfl rfl hni ?_
  walk_at "z"
  refine hic _ ?_
  walk_at "z"
  exact k
theorem read_change_ok {n : Int} {b : Nat} {sd : List Nat} (h : 1 ≤ n) (h' : n ≤ 4) (g : Chg n b sd) {Q : Va → Ev → Prop} (k : Q (.sh (chgD b sd)) [.sh true (.int n), .sh true (.lst ((chW b sd).map D.str))]) : WF f_read_change [.sh true (.int n), .sh true (.lst ((chW b sd).map D.str))] Q := by
  rw [chW_D] at k ⊢
  have hx0 : opIx (.lst (.str [99, 104, 97, 110, 103, 101] :: .str [b] :: .str [58] :: chars sd)) (.int 0) = some (.sh (.str [99, 104, 97, 110, 103, 101])) := ix_lst (by decide) rfl
  have hx1 : opIx (.lst (.str [99, 104, 97, 110, 103, 101] :: .str [b] :: .str [58] :: chars sd)) (.int 1) = some (.sh (.str [b])) := ix_lst (by decide) rfl
  have hx2 : opIx (.lst (.str [99, 104, 97, 110, 103, 101] :: .str [b] :: .str [58] :: chars sd)) (.int 2) = some (.sh (.str [58])) := ix_lst (by decide) rfl
  have hcut : cutD (.str [99, 104, 97, 110, 103, 101] :: .str [b] :: .str [58] :: chars sd) (some 3) none = chars sd := by rw [cut_drop _ (by decide)]; rfl
  have hlen : (.str [99, 104, 97, 110, 103, 101] :: .str [b] :: .str [58] :: chars sd : List D).length = sd.length + 3 := by simp [chars]
  have hbig : (.str [99, 104, 97, 110, 103, 101] :: .str [b] :: .str [58] :: chars sd : List D).length ≤ big := by
    have hsl : sd.length ≤ 8 := Nat.le_trans g.sub.length_le (Ln_len8 n)
    rw [hlen]; unfold big; omega
  have hlc : ∀ Q : Va → Ev → Prop, Q (.sh (.bl true)) [.sh true (.int n), .sh true (.tup [.str [b], .tup (chars sd)])] → WF f_look_change [.sh true (.int n), .sh true (.tup [.str [b], .tup (chars sd)])] Q := fun Q k => look_change_ok h h' g k
  have ek : chgD b sd = .tup [.str [b], .tup (chars sd)] := rfl
  rw [ek] at k
  generalize (.str [99, 104, 97, 110, 103, 101] :: .str [b] :: .str [58] :: chars sd : List D) = L at hx0 hx1 hx2 hcut hlen hbig k ⊢
  refine wf_of ?_
  walk_at "zn"
  unfold m_read_change
  walk_at "z"
  refine ⟨fun z => absurd (of_decide_eq_true z) (by omega), fun _ => ?_⟩
  walk_at "z"
  refine we_use2 rfl rfl hx0 ?_
  walk_at "z"
  refine we_use2 rfl rfl hx2 ?_
  walk_at "z"
  refine we_use2 rfl rfl hx1 ?_
  walk_at "z"
  rw [hcut]
  refine hlc _ ?_
  walk_at "z"
  exact k
theorem read_change_no {n : Int} {w : List Nat} {r : List D} (hw : w ≠ [99, 104, 97, 110, 103, 101]) (hok : okD 64 (.str w) = true) (hl : r.length + 1 ≤ big) {Q : Va → Ev → Prop} (k : Q (.sh .non) [.sh true (.int n), .sh true (.lst (.str w :: r))]) : WF f_read_change [.sh true (.int n), .sh true (.lst (.str w :: r))] Q := by
  have hx0 : opIx (.lst (.str w :: r)) (.int 0) = some (.sh (.str w)) := ix_lst (by decide) rfl
  have hne := opNe_ok (x := .str w) (y := .str [99, 104, 97, 110, 103, 101]) hok rfl
  rw [eqD_str, decide_eq_false hw] at hne
  have hlen : (.str w :: r : List D).length ≤ big := by rw [List.length_cons]; exact hl
  generalize (.str w :: r : List D) = L at hx0 hlen k ⊢
  refine wf_of ?_
  walk_at "zn"
  unfold m_read_change
  walk_at "z"
  refine ⟨fun _ => ?_, fun _ => ?_⟩
  · walk_at "z"
    exact k
  · walk_at "z"
    refine we_use2 rfl rfl hx0 ?_
    walk_at "z"
    refine we_use2 rfl rfl hne ?_
    walk_at "z"
    exact k
theorem read_exchange_ok {n : Int} {e : List Nat} (h : 1 ≤ n) (h' : n ≤ 4) (g : Exg n e) {Q : Va → Ev → Prop} (k : Q (.sh (.tup (chars e))) [.sh true (.int n), .sh true (.lst ((exW e).map D.str))]) : WF f_read_exchange [.sh true (.int n), .sh true (.lst ((exW e).map D.str))] Q := by
  have hel := g.len h
  rw [exW_D] at k ⊢
  have hx0 : opIx (.lst (.str [101, 120, 99, 104, 97, 110, 103, 101] :: chars e)) (.int 0) = some (.sh (.str [101, 120, 99, 104, 97, 110, 103, 101])) := ix_lst (by decide) rfl
  have hcut : cutD (.str [101, 120, 99, 104, 97, 110, 103, 101] :: chars e) (some 1) none = chars e := by rw [cut_drop _ (by decide)]; rfl
  have hlen : (.str [101, 120, 99, 104, 97, 110, 103, 101] :: chars e : List D).length = e.length + 1 := by simp [chars]
  have hbig : (.str [101, 120, 99, 104, 97, 110, 103, 101] :: chars e : List D).length ≤ big := by rw [hlen]; unfold big; omega
  have hsrt : opSortT [.lst (e.map fun c => D.str [97 + li c])] = some (.nw (.lst (chars (lows n)))) := by
    have e1 : (e.map fun c => D.str [97 + li c]) = (e.map fun c => [97 + li c]).map D.str := by rw [List.map_map]; rfl
    rw [e1, opSortT_ok (by rw [List.length_map]; omega), srt_lows h h' g, List.map_map]; rfl
  have hlow : cutD [97, 98, 99, 100] none (some n) = lows n := by rw [cut_take _ (by omega)]; rfl
  have hll : Lw (lows n) := fun c hc => by
    have : c ∈ ([97, 98, 99, 100] : List Nat) := List.mem_of_mem_take hc
    revert this; unfold lets; simp only [List.mem_cons, List.not_mem_nil, or_false]; omega
  have hne := opNe_ok (okD_lchars hll) (okD_lchars hll)
  rw [eqD_lchars, decide_eq_true rfl] at hne
  have hlb : (lows n).length ≤ 4 := by unfold lows; have := List.length_take_le n.toNat [97, 98, 99, 100]; rw [List.length_take]; simp only [List.length_cons, List.length_nil]; omega
  generalize (.str [101, 120, 99, 104, 97, 110, 103, 101] :: chars e : List D) = L at hx0 hcut hlen hbig k ⊢
  refine wf_of ?_
  walk_at "zn"
  unfold m_read_exchange
  walk_at "z"
  refine letters_of_ok h h' ?_
  walk_at "z"
  refine ⟨fun z => ?_, fun _ => ?_⟩
  · rw [eqD_int, decide_eq_true (by rw [hlen]; push_cast; omega)] at z; cases z
  walk_at "z"
  refine we_use2 rfl rfl hx0 ?_
  walk_at "z"
  rw [hcut]
  refine we_lcX (xs := e) (g := fun c => D.str [c]) (h := fun _ => .bl true) (by unfold big; omega) (fun c hc => ⟨_, rfl, ?_⟩) ?_
  · have hin := opIn_tchars c (Ln n)
    rw [decide_eq_true (g.ln h h' c hc)] at hin
    walk_at "z"
    refine we_use2 rfl rfl hin ?_
    walk_at "z"
  walk_at "z"
  refine we_useL rfl (opAll_trues e) ?_
  walk_at "z"
  rw [hcut]
  refine we_lcX (xs := e) (g := fun c => D.str [c]) (h := fun c => .str [97 + li c]) (by unfold big; omega) (fun c hc => ⟨_, rfl, ?_⟩) ?_
  · walk_at "z"
    rw [lower_lw (Lw.one (g.lw c hc))]; rfl
  walk_at "z"
  refine we_useL rfl hsrt ?_
  walk_at "z"
  rw [hlow]
  have hls : opList [.str (lows n)] = some (.nw (.lst (chars (lows n)))) := opList_str (by unfold big; omega)
  refine we_useL rfl hls ?_
  refine we_use2 rfl rfl hne ?_
  walk_at "z"
  rw [hcut]
  exact k
theorem read_step_ok {n : Int} {s : Stp} (h : 1 ≤ n) (h' : n ≤ 4) (hs : StepOk n s) {Q : Va → Ev → Prop} (k : Q (.sh (stepD s)) [.sh true (.int n), .sh true (.lst ((stepW s).map D.str))]) : WF f_read_step [.sh true (.int n), .sh true (.lst ((stepW s).map D.str))] Q := by
  cases s with
  | chg b sd =>
    have hrc : ∀ Q : Va → Ev → Prop, Q (.sh (chgD b sd)) [.sh true (.int n), .sh true (.lst ((stepW (.chg b sd)).map D.str))] → WF f_read_change [.sh true (.int n), .sh true (.lst ((stepW (.chg b sd)).map D.str))] Q := fun Q k => read_change_ok h h' hs k
    have hadd : opAdd (.tup [.str [99, 104, 97, 110, 103, 101]]) (chgD b sd) = some (.sh (stepD (.chg b sd))) := rfl
    have hnn : opIsNot (chgD b sd) .non = some (.sh (.bl true)) := rfl
    generalize chgD b sd = CD at hrc hadd hnn
    generalize (stepW (.chg b sd)).map D.str = L at hrc k ⊢
    refine wf_of ?_
    walk_at "zn"
    unfold m_read_step
    walk_at "z"
    refine hrc _ ?_
    walk_at "z"
    refine we_use2 rfl rfl hnn ?_
    walk_at "z"
    refine we_use2 rfl rfl hadd ?_
    walk_at "z"
    exact k
  | exc e =>
    have hel := Exg.len hs h
    have hno : ∀ Q : Va → Ev → Prop, Q (.sh .non) [.sh true (.int n), .sh true (.lst ((exW e).map D.str))] → WF f_read_change [.sh true (.int n), .sh true (.lst ((exW e).map D.str))] Q := fun Q k => by
      rw [exW_D] at k ⊢
      exact read_change_no (by decide) rfl (by simp only [chars, List.length_map]; unfold big; omega) k
    have hre : ∀ Q : Va → Ev → Prop, Q (.sh (.tup (chars e))) [.sh true (.int n), .sh true (.lst ((exW e).map D.str))] → WF f_read_exchange [.sh true (.int n), .sh true (.lst ((exW e).map D.str))] Q := fun Q k => read_exchange_ok h h' hs k
    have ek : stepD (.exc e) = .tup [.str [101, 120, 99, 104, 97, 110, 103, 101], .tup (chars e)] := rfl
    have ew : stepW (.exc e) = exW e := rfl
    rw [ew] at k ⊢
    rw [ek] at k
    generalize (exW e).map D.str = L at hno hre k ⊢
    refine wf_of ?_
    walk_at "zn"
    unfold m_read_step
    walk_at "z"
    refine hno _ ?_
    walk_at "z"
    refine ⟨fun z => absurd z (by decide), fun _ => ?_⟩
    walk_at "z"
    refine hre _ ?_
    walk_at "z"
    refine ⟨fun z => (by cases (show false = true from z)), fun _ => ?_⟩
    walk_at "z"
    exact k
theorem read_road_ok {n : Int} {ss : List Stp} (h : 1 ≤ n) (h' : n ≤ 4) (hs : ∀ s ∈ ss, StepOk n s) (hl : ss.length ≤ 1000) {Q : Va → Ev → Prop} (k : Q (.sh (.tup (ss.map stepD))) [.sh true (.int n), .sh true (.str (rowsJ (ss.map stepW)))]) : WF f_read_road [.sh true (.int n), .sh true (.str (rowsJ (ss.map stepW)))] Q := by
  have hrw : ∀ ws ∈ ss.map stepW, RwOk ws ∧ (rowX ws).length ≤ 30 := fun ws hw => by
    obtain ⟨s, hm, rfl⟩ := List.mem_map.mp hw
    exact step_row h h' (hs s hm)
  have htot := rows_len (fun ws hw => (hrw ws hw).2)
  rw [List.length_map] at htot
  have hin := opIn_none (l := ss.map stepD) (okD_lstA fun d hd => by
    obtain ⟨s, hm, rfl⟩ := List.mem_map.mp hd
    exact okD_stepA h h' (hs s hm)) (fun d hd => by
    obtain ⟨s, hm, rfl⟩ := List.mem_map.mp hd
    cases s <;> exact eqD_tupNon _)
  refine wf_of ?_
  walk_at "zn"
  unfold m_read_road
  walk_at "z"
  refine rows_of_ok (fun ws hw => (hrw ws hw).1) (by omega) (fun ws hw => by have := (hrw ws hw).2; omega) ?_
  rw [List.map_map]
  walk_at "z"
  refine we_lcX (xs := ss) (g := fun s => D.lst ((stepW s).map D.str)) (h := stepD) (by unfold big; omega) (fun s hm => ⟨_, rfl, ?_⟩) ?_
  · walk_at "z"
    refine read_step_ok h h' (hs s hm) ?_
    walk_at "z"
  · walk_at "z"
    refine we_use2 rfl rfl hin ?_
    walk_at "z"
    exact k
theorem opLe_int {i j : Int} (h : i ≤ j) : opLe (.int i) (.int j) = some (.sh (.bl true)) := by
  show some (Va.sh (.bl (decide (i ≤ j)))) = _
  rw [decide_eq_true h]
theorem is_number_ok {m : Nat} (h : 1 ≤ m) (h' : m ≤ 999999) {Q : Va → Ev → Prop} (k : Q (.sh (.bl true)) [.sh true (.str (TL.numL m))]) : WF f_is_number [.sh true (.str (TL.numL m))] Q := by
  have h6 := num_len6 h'
  have hd := TL.numL_digits m
  obtain ⟨c, l, e, hc⟩ := num_head h
  rw [e] at k h6 hd ⊢
  have hx : opIx (.str (c :: l)) (.int 0) = some (.sh (.str [c])) := opIx_str (by unfold big; omega) (atI_nn (by decide) rfl)
  have hcd := hd c (by simp)
  have hok : okD 64 (.str [c]) = true := okD_str fun y hy => by rw [List.mem_singleton.mp hy]; omega
  have hne := opNe_ok (y := .str [48]) hok rfl
  rw [eqD_str, decide_eq_false (by simpa using hc)] at hne
  have hdig : ∀ x ∈ c :: l, opLe (.str [48]) (.str [x]) = some (.sh (.bl true)) ∧ opLe (.str [x]) (.str [57]) = some (.sh (.bl true)) := fun x hx => by
    have := hd x hx
    have e1 : ¬ ([x] : List Nat) < [48] := by rw [List.cons_lt_cons_iff]; simp; omega
    have e2 : ¬ ([57] : List Nat) < [x] := by rw [List.cons_lt_cons_iff]; simp; omega
    unfold opLe cmpI
    simp only [e1, e2]
    exact ⟨rfl, rfl⟩
  refine wf_of ?_
  walk_at "zn"
  unfold m_is_number
  walk_at "z"
  refine we_useL rfl (opLen_str (by unfold big; omega)) ?_
  refine ⟨_, _, true, rfl, rfl, opLe_int (by have : 1 ≤ (c :: l).length := by simp
                                             omega), fun _ => ?_, fun z => (by cases z)⟩
  walk_at "z"
  refine ⟨fun _ => ?_, fun z => absurd (of_decide_eq_false z) (by have : l.length + 1 ≤ 6 := h6; omega)⟩
  walk_at "z"
  refine we_use2 rfl rfl hx ?_
  walk_at "z"
  refine we_use2 rfl rfl hne ?_
  walk_at "z"
  refine we_lcX (xs := c :: l) (g := fun x => D.str [x]) (h := fun _ => .bl true) (by unfold big; omega) (fun x hx => ⟨_, rfl, ?_⟩) ?_
  · walk_at "z"
    refine ⟨_, _, true, rfl, rfl, (hdig x hx).1, fun _ => ?_, fun z => (by cases z)⟩
    walk_at "z"
    have q : some (Va.sh (.bl (!decide (([57] : List Nat) < [x])))) = some (Va.sh (.bl true)) := (hdig x hx).2
    exact Va.sh.inj (Option.some.inj q)
  walk_at "z"
  refine we_useL rfl (opAll_trues (c :: l)) ?_
  walk_at "z"
  exact k
theorem read_entry_ok {n : Int} {x : FEnt} (h : 1 ≤ n) (h' : n ≤ 4) (hx : EntOk n x) {Q : Va → Ev → Prop} (k : Q (.sh (entD x)) [.sh true (.int n), .sh true (.lst ((entW x).map D.str))]) : WF f_read_entry [.sh true (.int n), .sh true (.lst ((entW x).map D.str))] Q := by
  have eL : (entW x).map D.str = [.str [x.1], .str [x.2.1], .str (TL.numL x.2.2.toNat)] := rfl
  rw [eL] at k ⊢
  have hn1 : opNotIn (.str [x.1]) (.tup (chars (Ln n))) = some (.sh (.bl false)) := by
    unfold opNotIn inT
    simp only [flat_chars, flatD, Bool.and_self, if_true, inD_chars, Option.map_some, decide_eq_true hx.h1]; rfl
  have hn2 : opNotIn (.str [x.2.1]) (.tup (chars (Ln n))) = some (.sh (.bl false)) := by
    unfold opNotIn inT
    simp only [flat_chars, flatD, Bool.and_self, if_true, inD_chars, Option.map_some, decide_eq_true hx.h2]; rfl
  have hint := opIntS_int (by have := hx.lo; omega) hx.hi
  refine wf_of ?_
  walk_at "zn"
  unfold m_read_entry
  walk_at "z"
  refine letters_of_ok h h' ?_
  walk_at "z"
  refine we_use2 rfl rfl hn1 ?_
  walk_at "z"
  refine we_use2 rfl rfl hn2 ?_
  walk_at "z"
  refine is_number_ok (by have := hx.lo; omega) hx.nat ?_
  walk_at "z"
  refine we_useL rfl hint ?_
  walk_at "z"
  exact k
theorem read_flow_ok {n : Int} {f : List FEnt} (h : 1 ≤ n) (h' : n ≤ 4) (hf : ∀ x ∈ f, EntOk n x) (hl : f.length ≤ 1000) {Q : Va → Ev → Prop} (k : Q (.sh (flD f)) [.sh true (.int n), .sh true (.lst ((flW f).map D.str))]) : WF f_read_flow [.sh true (.int n), .sh true (.lst ((flW f).map D.str))] Q := by
  obtain ⟨t1, t2⟩ := flW_tot hf
  have hlen : ((flW f).map D.str).length = 2 + 3 * f.length := by rw [List.length_map, t2]
  have hcut : cutD ((flW f).map D.str) none (some 2) = [.str [102, 108, 111, 119], .str [58]] := by rw [cut_take _ (by decide), flW_D]; rfl
  have hat : ∀ k x, f[k]? = some x → cutD ((flW f).map D.str) (some (2 + (k : Nat) * 3)) (some (2 + (k : Nat) * 3 + 3)) = (entW x).map D.str := fun k x hk => by
    rw [cut_mid _ (by omega) (by omega)]
    rw [show (2 + (k : Nat) * 3 : Int).toNat = 2 + 3 * k by omega, show (2 + (k : Nat) * 3 + 3 : Int).toNat - (2 + 3 * k) = 3 by omega]
    rw [← flW_at hk, List.map_drop, List.map_take, List.drop_take]
    congr 1; omega
  have hin := opIn_none (l := f.map entD) (okD_lstA fun d hd => by
    obtain ⟨x, hm, rfl⟩ := List.mem_map.mp hd
    exact okD_ent (hf x hm)) (fun d hd => by
    obtain ⟨x, hm, rfl⟩ := List.mem_map.mp hd
    exact eqD_tupNon _)
  have hrg := rngD3_ok (k := f.length) (by omega)
  generalize (flW f).map D.str = L at hlen hcut hat k ⊢
  refine wf_of ?_
  walk_at "zn"
  unfold m_read_flow
  walk_at "z"
  rw [hcut]
  have hne := opNe_ok (x := .lst [.str [102, 108, 111, 119], .str [58]]) (y := .lst [.str [102, 108, 111, 119], .str [58]]) rfl rfl
  have e0 : eqD (.lst [.str [102, 108, 111, 119], .str [58]]) (.lst [.str [102, 108, 111, 119], .str [58]]) = true := eqD_ok 64 _ rfl
  rw [e0] at hne
  refine we_use2 rfl rfl hne ?_
  walk_at "z"
  refine ⟨fun z => ?_, fun _ => ?_⟩
  · rw [eqD_int, decide_eq_true (by rw [hlen]; omega)] at z; cases z
  walk_at "z"
  rw [hlen]
  rw [hrg]
  refine ⟨_, rfl, ?_⟩
  unfold rngC
  refine we_lcX (xs := List.range f.length) (g := fun (k : Nat) => D.int (2 + k * 3)) (h := fun (k : Nat) => ((f[k]?).map entD).getD .non) (by rw [List.length_range]; unfold big; omega) (fun k hk => ⟨_, rfl, ?_⟩) ?_
  · have hk := List.mem_range.mp hk
    have hg : f[k]? = some f[k] := List.getElem?_eq_getElem hk
    have hm := List.getElem_mem hk
    have hat := hat k _ hg
    rw [hg]
    generalize f[k] = x at hat hm
    walk_at "z"
    rw [hat]
    refine read_entry_ok h h' (hf x hm) ?_
    walk_at "z"
    rfl
  have em : ((List.range f.length).map fun (k : Nat) => ((f[k]?).map entD).getD .non) = f.map entD := by
    apply List.ext_getElem?
    intro i
    rw [List.getElem?_map, List.getElem?_map]
    by_cases hi : i < f.length
    · rw [List.getElem?_range hi]
      show some (((f[i]?).map entD).getD .non) = _
      rw [List.getElem?_eq_getElem hi]; rfl
    · rw [List.getElem?_eq_none (by rw [List.length_range]; omega), List.getElem?_eq_none (by omega)]; rfl
  rw [em]
  walk_at "z"
  refine we_use2 rfl rfl hin ?_
  walk_at "z"
  exact k
theorem read_flow_no {n : Int} {w : List Nat} {r : List D} (hw : w ≠ [102, 108, 111, 119]) (hok : okD 64 (.str w) = true) (hokr : ∀ d ∈ r, okD 63 d = true) {Q : Va → Ev → Prop} (k : Q (.sh .non) [.sh true (.int n), .sh true (.lst (.str w :: r))]) : WF f_read_flow [.sh true (.int n), .sh true (.lst (.str w :: r))] Q := by
  have hcut : cutD (.str w :: r : List D) none (some 2) = .str w :: r.take 1 := by rw [cut_take _ (by decide)]; rfl
  have hne := opNe_ok (x := .lst (.str w :: r.take 1)) (y := .lst [.str [102, 108, 111, 119], .str [58]]) (okD_lstA fun d hd => by
    rcases List.mem_cons.mp hd with rfl | hd
    · exact okD_strA hok
    · exact hokr d (List.mem_of_mem_take hd)) rfl
  have e1 : eqD (.lst (.str w :: r.take 1)) (.lst [.str [102, 108, 111, 119], .str [58]]) = false := by
    simp only [eqD, eqDs, decide_eq_false hw, Bool.false_and]
  rw [e1] at hne
  generalize (.str w :: r : List D) = L at hcut k ⊢
  refine wf_of ?_
  walk_at "zn"
  unfold m_read_flow
  walk_at "z"
  rw [hcut]
  refine we_use2 rfl rfl hne ?_
  walk_at "z"
  exact k
theorem show_road_ok {n : Int} {ss : List Stp} (h : 1 ≤ n) (h' : n ≤ 4) (hs : ∀ s ∈ ss, StepOk n s) (hl : ss.length ≤ 1000) {Q : Va → Ev → Prop} (k : Q (.sh (.str (rowsJ (ss.map stepW)))) [.sh true (.tup (ss.map stepD))]) : WF f_show_road [.sh true (.tup (ss.map stepD))] Q := by
  have htot : tot ((ss.map stepW).map rowX) ≤ ss.length * 30 := by
    clear k hl
    induction ss with
    | nil => simp [tot]
    | cons s ss ih =>
      have i1 := ih fun v hv => hs v (List.mem_cons_of_mem _ hv)
      have i2 := (step_row h h' (hs s (by simp))).2
      rw [List.map_cons, List.map_cons, tot_cons, List.length_cons, Nat.succ_mul]
      omega
  have hj := opJoin_any (a := [10]) (us := (ss.map stepW).map rowX) (by
    have e : (((ss.map stepW).map rowX).map List.length).sum = tot ((ss.map stepW).map rowX) := rfl
    rw [e, List.length_map, List.length_map]; simp only [List.length_cons, List.length_nil]; unfold big; omega)
  refine wf_of ?_
  walk_at "zn"
  unfold m_show_road
  walk_at "z"
  refine we_lcX (xs := ss) (g := stepD) (h := fun s => .str (rowX (stepW s))) (by unfold big; omega) (fun s hm => ⟨_, rfl, ?_⟩) ?_
  · walk_at "z"
    refine step_text_ok h h' (hs s hm) ?_
    walk_at "z"
  · have e : (ss.map fun s => D.str (rowX (stepW s))) = ((ss.map stepW).map rowX).map D.str := by rw [List.map_map, List.map_map]; rfl
    rw [e]
    walk_at "z"
    refine we_useM rfl rfl hj ?_
    walk_at "z"
    exact k
theorem pap_join {n : Int} {chs : List Cg} {fls : List (List FEnt)} (h : 1 ≤ n) (h' : n ≤ 4) (p : PapOk n chs fls) : opJoin (.str [10]) [.lst (((papR chs fls).map rowX).map .str)] = some (.sh (.str (rowsJ (papR chs fls)))) := by
  have l1 := p.l1
  have l2 := p.l2
  have htot : tot ((papR chs fls).map rowX) ≤ (papR chs fls).length * 2300 := by
    have hr := pap_rows h h' p
    generalize papR chs fls = rows at hr
    induction rows with
    | nil => simp [tot]
    | cons s ss ih =>
      have i1 := ih fun v hv => hr v (List.mem_cons_of_mem _ hv)
      have i2 := (hr s (by simp)).2
      rw [List.map_cons, tot_cons, List.length_cons, Nat.succ_mul]
      omega
  exact opJoin_any (a := [10]) (us := (papR chs fls).map rowX) (by
    have e : (((papR chs fls).map rowX).map List.length).sum = tot ((papR chs fls).map rowX) := rfl
    rw [e, List.length_map]
    rw [(pap_len h h' p).2] at htot ⊢
    have : (chs.length + fls.length) * 2300 ≤ 2000 * 2300 := Nat.mul_le_mul (by omega) (by omega)
    simp only [List.length_cons, List.length_nil]; unfold big; omega)
theorem pap_add {n : Int} {chs : List Cg} {fls : List (List FEnt)} (p : PapOk n chs fls) : opAdd (.lst (chs.map fun c => D.str (rowX (chW c.1 c.2)))) (.lst (fls.map fun f => D.str (rowX (flW f)))) = some (.nw (.lst (((papR chs fls).map rowX).map D.str))) := by
  have l1 := p.l1
  have l2 := p.l2
  rw [opAdd_lst (by rw [List.length_map, List.length_map]; unfold big; omega)]
  unfold papR
  rw [List.map_append, List.map_append, List.map_map, List.map_map, List.map_map, List.map_map]; rfl
theorem show_paper_ok {n : Int} {chs : List Cg} {fls : List (List FEnt)} (h : 1 ≤ n) (h' : n ≤ 4) (p : PapOk n chs fls) {Q : Va → Ev → Prop} (k : Q (.sh (.str (rowsJ (papR chs fls)))) [.sh true (ppD chs fls)]) : WF f_show_paper [.sh true (ppD chs fls)] Q := by
  have l1 := p.l1
  have l2 := p.l2
  have hj := pap_join h h' p
  have e0 : opIx (ppD chs fls) (.int 0) = some (.sh (.tup (chs.map fun c => chgD c.1 c.2))) := rfl
  have e1 : opIx (ppD chs fls) (.int 1) = some (.sh (.tup (fls.map flD))) := rfl
  have hadd := pap_add p
  generalize ppD chs fls = PD at e0 e1 k ⊢
  refine wf_of ?_
  walk_at "zn"
  unfold m_show_paper
  walk_at "z"
  refine we_use2 rfl rfl e0 ?_
  walk_at "z"
  refine we_lcX (xs := chs) (g := fun c => chgD c.1 c.2) (h := fun c => .str (rowX (chW c.1 c.2))) (by unfold big; omega) (fun c hc => ⟨_, rfl, ?_⟩) ?_
  · have hsl : c.2.length ≤ 8 := Nat.le_trans (p.c c hc).sub.length_le (Ln_len8 n)
    walk_at "z"
    refine change_text_ok hsl ?_
    walk_at "z"
  walk_at "z"
  refine we_use2 rfl rfl e1 ?_
  walk_at "z"
  refine we_lcX (xs := fls) (g := flD) (h := fun f => .str (rowX (flW f))) (by unfold big; omega) (fun f hf => ⟨_, rfl, ?_⟩) ?_
  · walk_at "z"
    refine flow_text_ok (p.f f hf) (by have := p.l3 f hf; omega) ?_
    walk_at "z"
  walk_at "z"
  refine we_use2 rfl rfl hadd ?_
  walk_at "z"
  refine we_useM rfl rfl hj ?_
  walk_at "z"
  exact k
theorem read_paper_ok {n : Int} {chs : List Cg} {fls : List (List FEnt)} (h : 1 ≤ n) (h' : n ≤ 4) (p : PapOk n chs fls) {Q : Va → Ev → Prop} (k : Q (.sh (ppD chs fls)) [.sh true (.int n), .sh true (.str (rowsJ (papR chs fls)))]) : WF f_read_paper [.sh true (.int n), .sh true (.str (rowsJ (papR chs fls)))] Q := by
  have l1 := p.l1
  have l2 := p.l2
  have hlen := pap_len h h' p
  have hrw := pap_rows h h' p
  refine wf_of ?_
  walk_at "zn"
  unfold m_read_paper
  walk_at "z"
  refine rows_of_ok (fun ws hw => (hrw ws hw).1) (by omega) (fun ws hw => by have := (hrw ws hw).2; omega) ?_
  walk_at "z"
  refine ws_loop (fun i ρ => ∃ (s4 s5 s6 s7 : Sl), ρ = [.sh true (.int n), .sh true (.str (rowsJ (papR chs fls))), .ow false false (.lst ((chs.take i).map fun c => chgD c.1 c.2)), .ow false false (.lst ((fls.take (i - chs.length)).map flD)), s4, s5, s6, s7]) ⟨.no, .no, .no, .no, by simp⟩ ?_ ?_
  · rintro i x ρ e ⟨s4, s5, s6, s7, rfl⟩
    obtain ⟨y, hy, rfl⟩ := enL_get e
    rw [List.getElem?_map] at hy
    obtain ⟨ws, hws, rfl⟩ := map_some' hy
    unfold papR at hws
    refine ⟨_, rfl, ?_⟩
    by_cases hi : i < chs.length
    · rw [List.getElem?_append_left (by rw [List.length_map]; exact hi), List.getElem?_map] at hws
      obtain ⟨c, hc, rfl⟩ := map_some' hws
      have hcm := List.mem_of_getElem? hc
      have z0 : i - chs.length = 0 := by omega
      have z1 : i + 1 - chs.length = 0 := by omega
      rw [z0, z1]
      have etk : (chs.take (i + 1)).map (fun c => chgD c.1 c.2) = (chs.take i).map (fun c => chgD c.1 c.2) ++ [chgD c.1 c.2] := by
        rw [List.take_succ, hc]; simp
      have hrc : ∀ Q : Va → Ev → Prop, Q (.sh (chgD c.1 c.2)) [.sh true (.int n), .sh true (.lst ((chW c.1 c.2).map D.str))] → WF f_read_change [.sh true (.int n), .sh true (.lst ((chW c.1 c.2).map D.str))] Q := fun Q k => read_change_ok h h' (p.c c hcm) k
      have hrf : ∀ Q : Va → Ev → Prop, Q (.sh .non) [.sh true (.int n), .sh true (.lst ((chW c.1 c.2).map D.str))] → WF f_read_flow [.sh true (.int n), .sh true (.lst ((chW c.1 c.2).map D.str))] Q := fun Q k => by
        have g := p.c c hcm
        rw [chW_D] at k ⊢
        refine read_flow_no (by decide) rfl (fun d hd => ?_) k
        rcases List.mem_cons.mp hd with rfl | hd
        · exact okD_strA (Asc.one (lets_lt (Ln_lw n _ g.bn))).ok
        rcases List.mem_cons.mp hd with rfl | hd
        · rfl
        · exact okD_charsA g.lw d hd
      have hlt : ((chs.take i).map fun c => chgD c.1 c.2).length < big := by rw [List.length_map]; have := List.length_take_le i chs; unfold big; omega
      have hnn : opIs (chgD c.1 c.2) .non = some (.sh (.bl false)) := rfl
      rw [etk]
      generalize (chs.take i).map (fun c => chgD c.1 c.2) = CL at hlt ⊢
      generalize chgD c.1 c.2 = CD at hrc hnn ⊢
      generalize (chW c.1 c.2).map D.str = WD at hrc hrf ⊢
      generalize rowsJ (papR chs fls) = TX
      walk_at "z"
      refine ⟨fun _ => ?_, fun z => (by cases (show true = false from z))⟩
      walk_at "z"
      refine hrc _ ?_
      walk_at "z"
      refine hrf _ ?_
      walk_at "z"
      refine we_use2 rfl rfl hnn ?_
      walk_at "z"
      refine we_use2 rfl rfl hnn ?_
      walk_at "z"
      refine we_useU rfl (opAppend_ok hlt) ?_
      walk_at "z"
      exact ⟨_, _, _, _, rfl⟩
    · obtain ⟨j, rfl⟩ : ∃ j, i = chs.length + j := ⟨i - chs.length, by omega⟩
      rw [List.getElem?_append_right (by rw [List.length_map]; omega), List.length_map, show chs.length + j - chs.length = j by omega, List.getElem?_map] at hws
      obtain ⟨f, hf, rfl⟩ := map_some' hws
      have hfm := List.mem_of_getElem? hf
      have hjl := (List.getElem?_eq_some_iff.mp hf).1
      have t1 : chs.take (chs.length + j) = chs := List.take_of_length_le (by omega)
      have t2 : chs.take (chs.length + j + 1) = chs := List.take_of_length_le (by omega)
      rw [t1, t2, show chs.length + j - chs.length = j by omega, show chs.length + j + 1 - chs.length = j + 1 by omega]
      have etk : (fls.take (j + 1)).map flD = (fls.take j).map flD ++ [flD f] := by
        rw [List.take_succ, hf]; simp
      have hrc : ∀ Q : Va → Ev → Prop, Q (.sh .non) [.sh true (.int n), .sh true (.lst ((flW f).map D.str))] → WF f_read_change [.sh true (.int n), .sh true (.lst ((flW f).map D.str))] Q := fun Q k => by
        have := (flW_tot (p.f f hfm)).2
        have l3 := p.l3 f hfm
        have e2 : ((flW f).map D.str).length = 2 + 3 * f.length := by rw [List.length_map, this]
        rw [flW_D] at k e2 ⊢
        rw [List.length_cons] at e2
        exact read_change_no (by decide) rfl (by unfold big; omega) k
      have hrf : ∀ Q : Va → Ev → Prop, Q (.sh (flD f)) [.sh true (.int n), .sh true (.lst ((flW f).map D.str))] → WF f_read_flow [.sh true (.int n), .sh true (.lst ((flW f).map D.str))] Q := fun Q k => read_flow_ok h h' (p.f f hfm) (by have := p.l3 f hfm; omega) k
      have hlt : ((fls.take j).map flD).length = j := by rw [List.length_map, List.length_take]; omega
      have hnn : opIs (flD f) .non = some (.sh (.bl false)) := rfl
      have hlb : ((fls.take j).map flD).length < big := by rw [hlt]; unfold big; omega
      rw [etk]
      generalize (fls.take j).map flD = FL at hlt hlb ⊢
      generalize flD f = FD at hrf hnn ⊢
      generalize (flW f).map D.str = WD at hrc hrf ⊢
      generalize rowsJ (papR chs fls) = TX
      generalize chs.map (fun c => chgD c.1 c.2) = CL
      walk_at "z"
      refine ⟨fun _ => ?_, fun _ => ?_⟩
      · walk_at "z"
        refine hrc _ ?_
        walk_at "z"
        refine hrf _ ?_
        walk_at "z"
        refine ⟨fun _ => ?_, fun z => (by cases (show true = false from z))⟩
        walk_at "z"
        refine we_use2 rfl rfl hnn ?_
        walk_at "z"
        refine ⟨fun _ => ?_, fun z => (by cases (show true = false from z))⟩
        walk_at "z"
        refine we_useU rfl (opAppend_ok hlb) ?_
        walk_at "z"
        exact ⟨_, _, _, _, rfl⟩
      · walk_at "z"
        refine hrf _ ?_
        walk_at "z"
        refine ⟨fun _ => ?_, fun z => (by cases (show true = false from z))⟩
        walk_at "z"
        refine we_use2 rfl rfl hnn ?_
        walk_at "z"
        refine ⟨fun _ => ?_, fun z => (by cases (show true = false from z))⟩
        walk_at "z"
        refine we_useU rfl (opAppend_ok hlb) ?_
        walk_at "z"
        exact ⟨_, _, _, _, rfl⟩
  · rintro ρ ⟨s4, s5, s6, s7, rfl⟩
    have e1 : (enL ((papR chs fls).map fun ws => D.lst (ws.map D.str))).length = chs.length + fls.length := by rw [enL_len, List.length_map, hlen.2]
    rw [e1, List.take_of_length_le (by omega), show chs.length + fls.length - chs.length = fls.length by omega, List.take_length]
    walk_at "z"
    exact k
end T
namespace T
theorem law_step_text_ok {n : Int} {s : Stp} (h : 1 ≤ n) (h' : n ≤ 4) (hs : StepOk n s) {Q : Va → Ev → Prop} (k : Q (.sh (.str (rowX (stepW s)))) [.sh true (stepD s)]) : WF f_law_step_text [.sh true (stepD s)] Q := by
  refine wf_of ?_
  walk_at "zn"
  unfold m_law_step_text
  cases s with
  | chg b sd =>
    have g : Chg n b sd := hs
    have hsl : sd.length ≤ 8 := Nat.le_trans g.sub.length_le (Ln_len8 n)
    obtain ⟨t1, t2⟩ := chW_tot b sd
    have hadd : opAdd (.tup [.str [99, 104, 97, 110, 103, 101], .str [b], .str [58]]) (.tup (chars sd)) = some (.sh (.tup ((chW b sd).map D.str))) := by
      rw [opAdd_tup (by simp only [chars, List.length_map, List.length_cons, List.length_nil]; unfold big; omega), chW_D]; rfl
    have hj := opJoin_tup (a := [32]) (us := chW b sd) (by
      have e : ((chW b sd).map List.length).sum = tot (chW b sd) := rfl
      rw [e, t1, t2]; simp only [List.length_cons, List.length_nil]; unfold big; omega)
    have ek : rowX (stepW (.chg b sd)) = joinD [32] (chW b sd) := rfl
    rw [ek] at k
    unfold stepD at k ⊢
    walk_at "z"
    refine ⟨fun z => absurd z (by decide), fun _ => ?_⟩
    walk_at "z"
    refine we_use2 rfl rfl hadd ?_
    walk_at "z"
    refine we_useM rfl rfl hj ?_
    walk_at "z"
    exact k
  | exc e =>
    have g : Exg n e := hs
    have hel := Exg.len hs h
    obtain ⟨t1, t2⟩ := exW_tot e
    have hadd : opAdd (.tup [.str [101, 120, 99, 104, 97, 110, 103, 101]]) (.tup (chars e)) = some (.sh (.tup ((exW e).map D.str))) := by
      rw [opAdd_tup (by simp only [chars, List.length_map, List.length_cons, List.length_nil]; unfold big; omega), exW_D]; rfl
    have hj := opJoin_tup (a := [32]) (us := exW e) (by
      have e : ((exW e).map List.length).sum = tot (exW e) := rfl
      rw [e, t1, t2]; simp only [List.length_cons, List.length_nil]; unfold big; omega)
    have ek : rowX (stepW (.exc e)) = joinD [32] (exW e) := rfl
    rw [ek] at k
    unfold stepD at k ⊢
    walk_at "z"
    refine we_use2 rfl rfl hadd ?_
    walk_at "z"
    refine we_useM rfl rfl hj ?_
    walk_at "z"
    exact k
theorem law_flow_text_ok {n : Int} {f : List FEnt} (hf : ∀ x ∈ f, EntOk n x) (hl : f.length ≤ 1000) {Q : Va → Ev → Prop} (k : Q (.sh (.str (rowX (flW f)))) [.sh true (flD f)]) : WF f_law_flow_text [.sh true (flD f)] Q := by
  obtain ⟨t1, t2⟩ := flL_tot hf
  have hj := opJoin_any (a := [32]) (us := flL f) (by
    have e : ((flL f).map List.length).sum = tot (flL f) := rfl
    rw [e, t2]; simp only [List.length_cons, List.length_nil]; unfold big; omega)
  rw [flL_glue] at hj
  refine wf_of ?_
  walk_at "zn"
  unfold m_law_flow_text flD
  walk_at "z"
  refine ws_loopX (xs := f) (g := entD) (fun pre ρ => ∃ (s2 s3 s4 : Sl), ρ = [.sh true (.tup (f.map entD)), .ow false false (.lst ((flL pre).map D.str)), s2, s3, s4]) ⟨_, _, _, rfl⟩ ?_ ?_
  · rintro pre x post ρ he ⟨s2, s3, s4, rfl⟩
    have hx : x ∈ f := by rw [he]; simp
    have hlp : pre.length ≤ f.length := by rw [he]; simp
    obtain ⟨p1, p2⟩ := flL_tot (f := pre) fun y hy => hf y (by rw [he]; exact List.mem_append_left _ hy)
    have hstr := opStrI_int (by have := (hf x hx).lo; omega) (hf x hx).hi
    have h6 := num_len6 (hf x hx).nat
    have hsn : (flL pre).map D.str ++ [.str ([x.1] ++ [32] ++ [x.2.1] ++ [32] ++ TL.numL x.2.2.toNat)] = (flL (pre ++ [x])).map D.str := by
      unfold flL
      simp
    have hln : ((flL pre).map D.str).length < big := by rw [List.length_map, p2]; unfold big; omega
    have ex : entD x = .tup [.str [x.1], .str [x.2.1], .int x.2.2] := rfl
    generalize TL.numL x.2.2.toNat = v at hstr h6 hsn
    generalize (flL pre).map D.str = LP at hsn hln ⊢
    refine ⟨_, rfl, ?_⟩
    walk_at "z"
    refine we_useL rfl hstr ?_
    walk_at "z"
    refine we_useU rfl (opAppend_ok hln) ?_
    exact ⟨_, _, _, by rw [← hsn]; rfl⟩
  · rintro ρ ⟨s2, s3, s4, rfl⟩
    walk_at "z"
    refine we_useM rfl rfl hj ?_
    walk_at "z"
    exact k
theorem law_road_text_ok {n : Int} {ss : List Stp} (h : 1 ≤ n) (h' : n ≤ 4) (hs : ∀ s ∈ ss, StepOk n s) (hl : ss.length ≤ 1000) {Q : Va → Ev → Prop} (k : Q (.sh (.str (rowsJ (ss.map stepW)))) [.sh true (.tup (ss.map stepD))]) : WF f_law_road_text [.sh true (.tup (ss.map stepD))] Q := by
  have htot : tot ((ss.map stepW).map rowX) ≤ ss.length * 30 := by
    clear k hl
    induction ss with
    | nil => simp [tot]
    | cons s ss ih =>
      have i1 := ih fun v hv => hs v (List.mem_cons_of_mem _ hv)
      have i2 := (step_row h h' (hs s (by simp))).2
      rw [List.map_cons, List.map_cons, tot_cons, List.length_cons, Nat.succ_mul]
      omega
  have hj := opJoin_any (a := [10]) (us := (ss.map stepW).map rowX) (by
    have e : (((ss.map stepW).map rowX).map List.length).sum = tot ((ss.map stepW).map rowX) := rfl
    rw [e, List.length_map, List.length_map]; simp only [List.length_cons, List.length_nil]; unfold big; omega)
  refine wf_of ?_
  walk_at "zn"
  unfold m_law_road_text
  walk_at "z"
  refine we_lcX (xs := ss) (g := stepD) (h := fun s => .str (rowX (stepW s))) (by unfold big; omega) (fun s hm => ⟨_, rfl, ?_⟩) ?_
  · walk_at "z"
    refine law_step_text_ok h h' (hs s hm) ?_
    walk_at "z"
  · have e : (ss.map fun s => D.str (rowX (stepW s))) = ((ss.map stepW).map rowX).map D.str := by rw [List.map_map, List.map_map]; rfl
    rw [e]
    walk_at "z"
    refine we_useM rfl rfl hj ?_
    walk_at "z"
    exact k
theorem law_paper_text_ok {n : Int} {chs : List Cg} {fls : List (List FEnt)} (h : 1 ≤ n) (h' : n ≤ 4) (p : PapOk n chs fls) {Q : Va → Ev → Prop} (k : Q (.sh (.str (rowsJ (papR chs fls)))) [.sh true (ppD chs fls)]) : WF f_law_paper_text [.sh true (ppD chs fls)] Q := by
  have l1 := p.l1
  have l2 := p.l2
  have hj := pap_join h h' p
  have e0 : opIx (ppD chs fls) (.int 0) = some (.sh (.tup (chs.map fun c => chgD c.1 c.2))) := rfl
  have e1 : opIx (ppD chs fls) (.int 1) = some (.sh (.tup (fls.map flD))) := rfl
  have hadd := pap_add p
  generalize ppD chs fls = PD at e0 e1 k ⊢
  refine wf_of ?_
  walk_at "zn"
  unfold m_law_paper_text
  walk_at "z"
  refine we_use2 rfl rfl e0 ?_
  walk_at "z"
  refine we_lcX (xs := chs) (g := fun c => chgD c.1 c.2) (h := fun c => .str (rowX (chW c.1 c.2))) (by unfold big; omega) (fun c hc => ⟨_, rfl, ?_⟩) ?_
  · have hcc : opAdd (.tup [.str [99, 104, 97, 110, 103, 101]]) (chgD c.1 c.2) = some (.sh (stepD (.chg c.1 c.2))) := rfl
    have hls : ∀ Q : Va → Ev → Prop, Q (.sh (.str (rowX (chW c.1 c.2)))) [.sh true (stepD (.chg c.1 c.2))] → WF f_law_step_text [.sh true (stepD (.chg c.1 c.2))] Q := fun Q k => law_step_text_ok (s := .chg c.1 c.2) h h' (p.c c hc) k
    generalize chgD c.1 c.2 = CD at hcc ⊢
    generalize stepD (.chg c.1 c.2) = SD at hcc hls
    walk_at "z"
    refine we_use2 rfl rfl hcc ?_
    walk_at "z"
    refine hls _ ?_
    walk_at "z"
  walk_at "z"
  refine we_use2 rfl rfl e1 ?_
  walk_at "z"
  refine we_lcX (xs := fls) (g := flD) (h := fun f => .str (rowX (flW f))) (by unfold big; omega) (fun f hf => ⟨_, rfl, ?_⟩) ?_
  · walk_at "z"
    refine law_flow_text_ok (p.f f hf) (by have := p.l3 f hf; omega) ?_
    walk_at "z"
  walk_at "z"
  refine we_use2 rfl rfl hadd ?_
  walk_at "z"
  refine we_useM rfl rfl hj ?_
  walk_at "z"
  exact k
theorem nice_txt {s : List Nat} (h : Asc s) (m : Nat) : nice (m + 1) (.str s) = true := h.ok
theorem nice_pap {n : Int} {chs : List Cg} {fls : List (List FEnt)} (h : 1 ≤ n) (h' : n ≤ 4) (p : PapOk n chs fls) : nice 8 (ppD chs fls) = true := by
  have l1 := p.l1
  have l2 := p.l2
  unfold ppD
  simp only [nice, Bool.and_eq_true, decide_eq_true_eq, List.all_eq_true]
  refine ⟨by simp only [List.length_cons, List.length_nil]; unfold big; omega, fun d hd => ?_⟩
  simp only [List.mem_cons, List.not_mem_nil, or_false] at hd
  rcases hd with rfl | rfl
  · simp only [nice, Bool.and_eq_true, decide_eq_true_eq, List.all_eq_true]
    refine ⟨by rw [List.length_map]; unfold big; omega, fun d hd => ?_⟩
    obtain ⟨c, hc, rfl⟩ := List.mem_map.mp hd
    exact nice_chgD h h' (p.c c hc) 2
  · simp only [nice, Bool.and_eq_true, decide_eq_true_eq, List.all_eq_true]
    refine ⟨by rw [List.length_map]; unfold big; omega, fun d hd => ?_⟩
    obtain ⟨f, hf, rfl⟩ := List.mem_map.mp hd
    have l3 := p.l3 f hf
    unfold flD
    simp only [nice, Bool.and_eq_true, decide_eq_true_eq, List.all_eq_true]
    refine ⟨by rw [List.length_map]; unfold big; omega, fun d hd => ?_⟩
    obtain ⟨x, hx, rfl⟩ := List.mem_map.mp hd
    have q := p.f f hf x hx
    unfold entD
    simp only [nice, Bool.and_eq_true, decide_eq_true_eq, List.all_eq_true]
    refine ⟨by simp only [List.length_cons, List.length_nil]; unfold big; omega, fun d hd => ?_⟩
    simp only [List.mem_cons, List.not_mem_nil, or_false] at hd
    rcases hd with rfl | rfl | rfl
    · exact (Asc.one (lets_lt (Ln_lw n _ q.h1))).ok
    · exact (Asc.one (lets_lt (Ln_lw n _ q.h2))).ok
    · rfl
theorem law_right_ok {n : Int} {ss : List Stp} {chs : List Cg} {fls : List (List FEnt)} (h : 1 ≤ n) (h' : n ≤ 4) (hs : ∀ s ∈ ss, StepOk n s) (hl : ss.length ≤ 1000) (p : PapOk n chs fls) {Q : Va → Ev → Prop} (k : Q (.sh (.bl true)) [.sh true (.int n), .sh true (.tup (ss.map stepD)), .sh true (ppD chs fls)]) :
    WF f_law_right [.sh true (.int n), .sh true (.tup (ss.map stepD)), .sh true (ppD chs fls)] Q := by
  have a1 : Asc (rowsJ (ss.map stepW)) := rows_asc fun ws hw => by
    obtain ⟨s, hm, rfl⟩ := List.mem_map.mp hw
    exact (step_row h h' (hs s hm)).1
  have a2 : Asc (rowsJ (papR chs fls)) := rows_asc fun ws hw => (pap_rows h h' p ws hw).1
  have q1 := fun Q k => show_road_ok (Q := Q) h h' hs hl k
  have q2 := fun Q k => read_road_ok (Q := Q) h h' hs hl k
  have q3 := fun Q k => show_paper_ok (Q := Q) h h' p k
  have q4 := fun Q k => read_paper_ok (Q := Q) h h' p k
  have q5 := fun Q k => law_road_text_ok (Q := Q) h h' hs hl k
  have q6 := fun Q k => law_paper_text_ok (Q := Q) h h' p k
  have v1 := fun Q k => law_alike_gen (Q := Q) 8 (nice_txt a1 7) k
  have v2 := fun Q k => law_alike_gen (Q := Q) 8 (nice_road h h' hs hl 3) k
  have v3 := fun Q k => law_alike_gen (Q := Q) 8 (nice_txt a2 7) k
  have v4 := fun Q k => law_alike_gen (Q := Q) 8 (nice_pap h h' p) k
  generalize ppD chs fls = PD at q3 q4 q6 v4 k ⊢
  generalize D.tup (ss.map stepD) = RD at q1 q2 q5 v2 k ⊢
  generalize rowsJ (ss.map stepW) = RT at q1 q2 q5 v1
  generalize rowsJ (papR chs fls) = PT at q3 q4 q6 v3
  refine wf_of ?_
  walk_at "zn"
  unfold m_law_right
  walk_at "z"
  refine q5 _ ?_
  walk_at "z"
  refine q1 _ ?_
  walk_at "z"
  refine v1 _ ?_
  walk_at "z"
  refine q2 _ ?_
  walk_at "z"
  refine v2 _ ?_
  walk_at "z"
  refine q6 _ ?_
  walk_at "z"
  refine q3 _ ?_
  walk_at "z"
  refine v3 _ ?_
  walk_at "z"
  refine q4 _ ?_
  walk_at "z"
  refine v4 _ ?_
  walk_at "z"
  exact k
theorem law_road2_ok {d : D} {n : Int} (hd : Flow d) (h : 1 ≤ n) (h' : n ≤ 4) {Q : Va → Ev → Prop} (k : ∀ d' (ss : List Stp), Flow d' → (∀ s ∈ ss, StepOk n s) → ss.length ≤ 6 → Q (.sh (.tup (ss.map stepD))) [.ow true false d', .sh true (.int n)]) : WF f_law_drawn_road [.ow true false d, .sh true (.int n)] Q := by
  refine wf_of ?_
  walk_at "zn"
  unfold m_law_drawn_road
  walk_at "z"
  refine law_pick_ok hd (by decide) (by decide) fun d2 r hd2 r0 r1 => ?_
  walk_at "z"
  walk_at "zn"
  refine we_lcGo (fun i acc ρ => ∃ (d : D) (ss : List Stp), Flow d ∧ ss.length = i ∧ (∀ s ∈ ss, StepOk n s) ∧ acc = ss.map stepD ∧ ρ = [.ow true false d, .sh true (.int n), .no]) ⟨d2, [], hd2, rfl, (fun s hs => by cases hs), rfl, rfl⟩ ?_ ?_
  · rintro i x acc ρ e ⟨d3, ss, hd3, hl, hss, rfl, rfl⟩
    obtain ⟨rfl, hi⟩ := rngL_get e
    refine ⟨_, rfl, ⟨⟨fun _ => ?_, fun z => by cases z⟩⟩⟩
    walk_at "z"
    refine law_drawn_step_ok hd3 h h' fun d4 s hd4 hs => ?_
    walk_at "z"
    refine ⟨by rw [List.length_map]; unfold big; omega, d4, ss ++ [s], hd4, by simp [hl], fun u hu => ?_, by simp, rfl⟩
    rcases List.mem_append.mp hu with hu | hu
    · exact hss u hu
    · rw [List.mem_singleton.mp hu]; exact hs
  · rintro acc ρ ⟨d3, ss, hd3, hl, hss, rfl, rfl⟩
    rw [rngL_len] at hl
    walk_at "z"
    exact k d3 ss hd3 hss (by omega)
theorem law_drawn_entry_ok {d : D} {n : Int} (hd : Flow d) (h : 1 ≤ n) (h' : n ≤ 4) {Q : Va → Ev → Prop} (k : ∀ d' x, Flow d' → EntOk n x → Q (.sh (entD x)) [.ow true false d', .sh true (.int n)]) : WF f_law_drawn_entry [.ow true false d, .sh true (.int n)] Q := by
  refine wf_of ?_
  walk_at "zn"
  unfold m_law_drawn_entry
  walk_at "z"
  refine we_lcGo (fun i acc ρ => ∃ (d : D) (cs : List Nat), Flow d ∧ cs.length = i ∧ (∀ c ∈ cs, c ∈ Ln n) ∧ acc = chars cs ∧ ρ = [.ow true false d, .sh true (.int n), .no, .no, .no]) ⟨d, [], hd, rfl, (fun s hs => by cases hs), rfl, rfl⟩ ?_ ?_
  · rintro i x acc ρ e ⟨d1, cs, hd1, hl, hcs, rfl, rfl⟩
    obtain ⟨rfl, hi⟩ := rngL_get e
    refine ⟨_, rfl, ⟨⟨fun _ => ?_, fun z => by cases z⟩⟩⟩
    walk_at "z"
    refine law_letters_ok h h' ?_
    walk_at "z"
    refine law_pick_ok hd1 (by omega) (by omega) fun d2 r hd2 r0 r1 => ?_
    walk_at "z"
    have hr : r < (chars (Ln n)).length := by rw [chars_len, Ln_len h h']; omega
    obtain ⟨x, hx, hm⟩ := atI_lt r0 hr
    obtain ⟨b, hb, rfl⟩ := chars_mem hm
    refine we_use2 rfl rfl (opIx_lst hx) ?_
    walk_at "z"
    refine ⟨by rw [chars_len]; unfold big; omega, d2, cs ++ [b], hd2, by simp [hl], fun u hu => ?_, by unfold chars; simp, rfl⟩
    rcases List.mem_append.mp hu with hu | hu
    · exact hcs u hu
    · rw [List.mem_singleton.mp hu]; exact hb
  rintro acc ρ ⟨d1, cs, hd1, hl, hcs, rfl, rfl⟩
  rw [rngL_len] at hl
  have hl2 : cs.length = 2 := hl
  obtain ⟨a, b, rfl⟩ : ∃ a b, cs = [a, b] := by
    match cs, hl2 with
    | [a, b], _ => exact ⟨a, b, rfl⟩
  have ea : chars [a, b] = [.str [a], .str [b]] := rfl
  have ha := hcs a (by simp)
  have hb := hcs b (by simp)
  rw [ea]
  walk_at "z"
  refine law_pick_ok hd1 (by decide) (by decide) fun d2 p hd2 p0 p1 => ?_
  walk_at "z"
  refine law_pick_ok hd2 (by decide) (by decide) fun d3 q hd3 q0 q1 => ?_
  walk_at "z"
  refine law_pick_ok hd3 (by decide) (by decide) fun d4 r hd4 r0 r1 => ?_
  walk_at "z"
  have hx : opIx (.lst [.int p, .int q]) (.int r) = some (.sh (.int (if r = 0 then p else q))) := by
    rcases (show r = 0 ∨ r = 1 by omega) with rfl | rfl <;> rfl
  refine we_use2 rfl rfl hx ?_
  walk_at "z"
  exact k d4 (a, b, 1 + (if r = 0 then p else q)) hd4 ⟨ha, hb, by show 1 ≤ 1 + (if r = 0 then p else q); split <;> omega, by show 1 + (if r = 0 then p else q) ≤ 999999; split <;> omega⟩
theorem law_drawn_paper_ok {d : D} {n : Int} (hd : Flow d) (h : 1 ≤ n) (h' : n ≤ 4) {Q : Va → Ev → Prop} (k : ∀ d' chs fls, Flow d' → PapOk n chs fls → Q (.sh (ppD chs fls)) [.ow true false d', .sh true (.int n)]) : WF f_law_drawn_paper [.ow true false d, .sh true (.int n)] Q := by
  refine wf_of ?_
  walk_at "zn"
  unfold m_law_drawn_paper
  walk_at "z"
  refine law_pick_ok hd (by decide) (by decide) fun d1 r1 hd1 r10 r11 => ?_
  walk_at "z"
  refine law_pick_ok hd1 (by decide) (by decide) fun d2 r2 hd2 r20 r21 => ?_
  walk_at "z"
  refine law_pick_ok hd2 (by decide) (by decide) fun d3 r3 hd3 r30 r31 => ?_
  walk_at "z"
  obtain ⟨m, hm0, hm1, hx⟩ : ∃ m : Int, 0 ≤ m ∧ m ≤ 24 ∧ opIx (.lst [.int r1, .int r2]) (.int (if eqD (.int r3) (.int 0) = true then 1 else 0)) = some (.sh (.int m)) := by
    cases eqD (.int r3) (.int 0)
    · exact ⟨r1, r10, by omega, rfl⟩
    · exact ⟨r2, r20, by omega, rfl⟩
  refine we_use2 rfl rfl hx ?_
  walk_at "z"
  refine we_lcGo (fun i acc ρ => ∃ (d : D) (cs : List Cg), Flow d ∧ cs.length = i ∧ (∀ c ∈ cs, Chg n c.1 c.2) ∧ acc = (cs.map fun c => chgD c.1 c.2) ∧ ρ = [.ow true false d, .sh true (.int n), .sh false (.int m), .no, .no, .no, .no]) ⟨d3, [], hd3, rfl, (fun s hs => by cases hs), rfl, rfl⟩ ?_ ?_
  · rintro i x acc ρ e ⟨d4, cs, hd4, hl, hcs, rfl, rfl⟩
    obtain ⟨rfl, hi⟩ := rngL_get e
    refine ⟨_, rfl, ⟨⟨fun _ => ?_, fun z => by cases z⟩⟩⟩
    walk_at "z"
    refine law_drawn_change_ok hd4 h h' fun d5 b sd hd5 g => ?_
    walk_at "z"
    refine ⟨by rw [List.length_map]; unfold big; omega, d5, cs ++ [(b, sd)], hd5, by simp [hl], fun u hu => ?_, by simp, rfl⟩
    rcases List.mem_append.mp hu with hu | hu
    · exact hcs u hu
    · rw [List.mem_singleton.mp hu]; exact g
  rintro acc ρ ⟨d4, chs, hd4, hl, hcs, rfl, rfl⟩
  rw [rngL_len] at hl
  walk_at "z"
  refine law_pick_ok hd4 (by decide) (by decide) fun d5 q hd5 q0 q1 => ?_
  walk_at "z"
  refine ws_loop (fun i ρ => ∃ (d : D) (fls : List (List FEnt)) (s5 : Sl), Flow d ∧ fls.length = i ∧ (∀ f ∈ fls, f.length ≤ 3 ∧ ∀ x ∈ f, EntOk n x) ∧ ρ = [.ow true false d, .sh true (.int n), .sh false (.int m), .sh false (.tup (chs.map fun c => chgD c.1 c.2)), .ow false false (.lst (fls.map flD)), s5, .no]) ⟨d5, [], _, hd5, rfl, (fun f hf => by cases hf), rfl⟩ ?_ ?_
  · rintro i x ρ e ⟨d6, fls, s5, hd6, hl6, hfl, rfl⟩
    obtain ⟨rfl, hi⟩ := rngL_get e
    refine ⟨_, rfl, ?_⟩
    walk_at "z"
    refine law_pick_ok hd6 (by decide) (by decide) fun d7 r hd7 r0 r1 => ?_
    walk_at "z"
    refine we_lcGo (fun j acc ρ => ∃ (d : D) (f : List FEnt), Flow d ∧ f.length = j ∧ (∀ x ∈ f, EntOk n x) ∧ acc = f.map entD ∧ ρ = [.ow true false d, .sh true (.int n), .sh false (.int m), .sh false (.tup (chs.map fun c => chgD c.1 c.2)), .ow false false (.lst (fls.map flD)), .sh false (.int (0 + (i : Nat))), .no]) ⟨d7, [], hd7, rfl, (fun s hs => by cases hs), rfl, rfl⟩ ?_ ?_
    · rintro j x acc ρ e ⟨d8, f, hd8, hlf, hf, rfl, rfl⟩
      obtain ⟨rfl, hj⟩ := rngL_get e
      refine ⟨_, rfl, ⟨⟨fun _ => ?_, fun z => by cases z⟩⟩⟩
      walk_at "z"
      refine law_drawn_entry_ok hd8 h h' fun d9 x hd9 hx => ?_
      walk_at "z"
      refine ⟨by rw [List.length_map]; unfold big; omega, d9, f ++ [x], hd9, by simp [hlf], fun u hu => ?_, by simp, rfl⟩
      rcases List.mem_append.mp hu with hu | hu
      · exact hf u hu
      · rw [List.mem_singleton.mp hu]; exact hx
    rintro acc ρ ⟨d8, f, hd8, hlf, hf, rfl, rfl⟩
    rw [rngL_len] at hlf
    have efl : D.tup (f.map entD) = flD f := rfl
    have hsn : fls.map flD ++ [flD f] = (fls ++ [f]).map flD := by simp
    have hlb : (fls.map flD).length < big := by rw [List.length_map]; unfold big; omega
    walk_at "z"
    rw [efl]
    refine we_useU rfl (opAppend_ok hlb) ?_
    rw [hsn]
    refine ⟨d8, fls ++ [f], _, hd8, by simp [hl6], fun g hg => ?_, rfl⟩
    rcases List.mem_append.mp hg with hg | hg
    · exact hfl g hg
    · rw [List.mem_singleton.mp hg]; exact ⟨by omega, hf⟩
  rintro ρ ⟨d6, fls, s5, hd6, hl6, hfl, rfl⟩
  rw [rngL_len] at hl6
  walk_at "z"
  exact k d6 chs fls hd6 ⟨hcs, fun f hf => (hfl f hf).2, by omega, by omega, fun f hf => by have := (hfl f hf).1; omega⟩
def Rok (r : Int × List Stp × List Cg × List (List FEnt)) : Prop := 1 ≤ r.1 ∧ r.1 ≤ 4 ∧ (∀ s ∈ r.2.1, StepOk r.1 s) ∧ r.2.1.length ≤ 1000 ∧ PapOk r.1 r.2.2.1 r.2.2.2
def RD (r : Int × List Stp × List Cg × List (List FEnt)) : D := .tup [.int r.1, .tup (r.2.1.map stepD), ppD r.2.2.1 r.2.2.2]
theorem law_wp (ns : List Int) : WF f_law [.sh true (.scr (ns.map .int))] fun s _ => s = .sh (.bl true) := by
  refine wf_of ?_
  walk_at "zn"
  unfold m_law
  walk_at "z"
  refine law_flow_ok fun d hd => ?_
  walk_at "z"
  refine ws_loop (fun i ρ => ∃ (d : D) (R : List (Int × List Stp × List Cg × List (List FEnt))) (s3 s5 : Sl), Flow d ∧ R.length = i ∧ (∀ r ∈ R, Rok r) ∧ ρ = [.sh true (.scr (ns.map .int)), .ow false false d, .ow false false (.lst (R.map RD)), s3, .no, s5, .no, .no]) ⟨d, [], _, _, hd, rfl, (fun r hr => by cases hr), rfl⟩ ?_ ?_
  · rintro i x ρ e ⟨d1, R, s3, s5, hd1, hl, hR, rfl⟩
    obtain ⟨rfl, hi⟩ := rngL_get e
    refine ⟨_, rfl, ?_⟩
    walk_at "z"
    refine law_pick_ok hd1 (by decide) (by decide) fun d2 r hd2 r0 r1 => ?_
    walk_at "z"
    have h : 1 ≤ 1 + r := by omega
    have h' : 1 + r ≤ 4 := by omega
    generalize 1 + r = n at h h' ⊢
    refine law_road2_ok hd2 h h' fun d3 ss hd3 hss hls => ?_
    walk_at "z"
    refine law_drawn_paper_ok hd3 h h' fun d4 chs fls hd4 hp => ?_
    have eR : D.tup [.int n, .tup (ss.map stepD), ppD chs fls] = RD (n, ss, chs, fls) := rfl
    have hsn : R.map RD ++ [RD (n, ss, chs, fls)] = (R ++ [(n, ss, chs, fls)]).map RD := by simp
    have hlb : (R.map RD).length < big := by rw [List.length_map]; unfold big; omega
    generalize hX : ppD chs fls = PX at eR
    walk_at "z"
    rw [eR]
    refine we_useU rfl (opAppend_ok hlb) ?_
    rw [hsn]
    refine ⟨d4, R ++ [(n, ss, chs, fls)], _, _, hd4, by simp [hl], fun g hg => ?_, rfl⟩
    rcases List.mem_append.mp hg with hg | hg
    · exact hR g hg
    · rw [List.mem_singleton.mp hg]; exact ⟨h, h', hss, by show ss.length ≤ 1000; omega, hp⟩
  rintro ρ ⟨d1, R, s3, s5, hd1, hl, hR, rfl⟩
  rw [rngL_len] at hl
  have hl2 : R.length = 2 := hl
  obtain ⟨A, B, rfl⟩ : ∃ A B, R = [A, B] := by
    match R, hl2 with
    | [A, B], _ => exact ⟨A, B, rfl⟩
  have hA := hR A (by simp)
  have hB := hR B (by simp)
  obtain ⟨n, sA, cA, fA⟩ := A
  have hC : Rok (n, [], [], []) := ⟨hA.1, hA.2.1, (fun s hs => by cases hs), (by show 0 ≤ 1000; decide), ⟨(fun s hs => by cases hs), (fun s hs => by cases hs), (by show 0 ≤ 1000; decide), (by show 0 ≤ 1000; decide), (fun s hs => by cases hs)⟩⟩
  have em : [(n, sA, cA, fA), B].map RD = [.tup [.int n, .tup (sA.map stepD), ppD cA fA], RD B] := rfl
  rw [em]
  walk_at "z"
  have el : (D.tup [.int n, .tup (sA.map stepD), ppD cA fA] :: RD B :: .tup [.int n, .tup [], .tup [.tup [], .tup []]] :: cutD [.tup [.int n, .tup (sA.map stepD), ppD cA fA], RD B] none (some 1)) = [(n, sA, cA, fA), B, (n, [], [], []), (n, sA, cA, fA)].map RD := by
    rw [cut_take _ (by decide)]; rfl
  rw [el]
  refine we_lcX (xs := [(n, sA, cA, fA), B, (n, [], [], []), (n, sA, cA, fA)]) (g := RD) (h := fun _ => .bl true) (by simp [big]) (fun r hr => ?_) ?_
  · have hr' : Rok r := by
      simp only [List.mem_cons, List.not_mem_nil, or_false] at hr
      rcases hr with rfl | rfl | rfl | rfl
      · exact hA
      · exact hB
      · exact hC
      · exact hA
    obtain ⟨m, ss, cs, fs⟩ := r
    obtain ⟨h, h', g1, g2, g3⟩ := hr'
    have q := fun Q k => law_right_ok (Q := Q) h h' g1 g2 g3 k
    have eR : RD (m, ss, cs, fs) = .tup [.int m, .tup (ss.map stepD), ppD cs fs] := rfl
    rw [eR]
    simp only at q
    generalize ppD cs fs = PX at q ⊢
    generalize D.tup (ss.map stepD) = SX at q ⊢
    refine ⟨_, rfl, ?_⟩
    walk_at "z"
    refine q _ ?_
    walk_at "z"
  · walk_at "z"
    rfl
theorem law_true (ns : List Int) (hl : ns.length ≤ 63) : ∃ o, f_law [.sh true (.scr (ns.map .int))] = .ok (.sh (.bl true)) o := by
  have h := law_wp ns
  unfold WF at h
  cases e : f_law [.sh true (.scr (ns.map .int))] with
  | ok s o => rw [e] at h; exact ⟨o, by rw [h.run]⟩
  | exc => rw [e] at h; exact h.run.elim
  | bad => rw [e] at h; exact h.run.elim
end T
namespace T
open PySem PySem.Spec PyProof.Rows L2 Z
abbrev hk : PySem.W.Hook := hookN 4 fa fn ex
theorem facts {P : Program} {w : World} {K K' : PySem.W.Frag} {cs : List (Addr × Addr)} {h : Heap} {mg : Str → Option Value} {f : Addr} (Sy : Says fa fn ex ms h K K' cs) (G : h.Ns mainGlobals mg) (hfa : mg ("law" : Str) = some (.ref f)) :
    ∃ fd : FuncData, (∀ (s : Shared) (v : Value), BindsTo s fd ⟨[v], []⟩ [("_law_script", v)]) ∧ ∀ base : Heap, K'.In base → base.Ns mainGlobals mg → (∀ p ∈ cs, LamX.TabB base mg p.1 p.2) → FnOk P w K' mg base CX0 11 f fd ["_law_script"] (spM K' mg 1 f_law) := by
  have X := Sy.kin'; have c := Sy.says'; have cx := Sy.exK'; have X' := Sy.kin'; have c' := Sy.says'; have kw := Kw.self Sy.kw.tt; have kw' := kw
  have z : Zs mg := ⟨He.free_ok X G (c.fact 37 (f := .free "all") rfl), He.free_ok X G (c.fact 38 (f := .free "bool") rfl), He.free_ok X G (c.fact 39 (f := .free "enumerate") rfl), He.free_ok X G (c.fact 40 (f := .free "int") rfl), He.free_ok X G (c.fact 41 (f := .free "isinstance") rfl), He.free_ok X G (c.fact 42 (f := .free "len") rfl), He.free_ok X G (c.fact 43 (f := .free "list") rfl), He.free_ok X G (c.fact 44 (f := .free "range") rfl), He.free_ok X G (c.fact 45 (f := .free "set") rfl), He.free_ok X G (c.fact 46 (f := .free "sorted") rfl), He.free_ok X G (c.fact 47 (f := .free "str") rfl), He.free_ok X G (c.fact 48 (f := .free "tuple") rfl)⟩
  obtain ⟨fd_law_flow, F_law_flow⟩ := c.def_ 0 (d := dd_law_flow) rfl
  have g_law_flow := He.glo_ok X G (c.fact 0 (f := .glo "_law_flow") rfl)
  obtain ⟨fd_law_pick, F_law_pick⟩ := c.def_ 1 (d := dd_law_pick) rfl
  have g_law_pick := He.glo_ok X G (c.fact 1 (f := .glo "_law_pick") rfl)
  obtain ⟨fd_law_step_text, F_law_step_text⟩ := c.def_ 2 (d := dd_law_step_text) rfl
  have g_law_step_text := He.glo_ok X G (c.fact 2 (f := .glo "_law_step_text") rfl)
  obtain ⟨fd_law_road_text, F_law_road_text⟩ := c.def_ 3 (d := dd_law_road_text) rfl
  have g_law_road_text := He.glo_ok X G (c.fact 3 (f := .glo "_law_road_text") rfl)
  obtain ⟨fd_law_flow_text, F_law_flow_text⟩ := c.def_ 4 (d := dd_law_flow_text) rfl
  have g_law_flow_text := He.glo_ok X G (c.fact 4 (f := .glo "_law_flow_text") rfl)
  obtain ⟨fd_law_paper_text, F_law_paper_text⟩ := c.def_ 5 (d := dd_law_paper_text) rfl
  have g_law_paper_text := He.glo_ok X G (c.fact 5 (f := .glo "_law_paper_text") rfl)
  obtain ⟨fd_law_alike, F_law_alike⟩ := c.def_ 6 (d := dd_law_alike) rfl
  have g_law_alike := He.glo_ok X G (c.fact 6 (f := .glo "_law_alike") rfl)
  obtain ⟨fd_change_text, F_change_text⟩ := c.def_ 7 (d := dd_change_text) rfl
  have g_change_text := He.glo_ok X G (c.fact 7 (f := .glo "change_text") rfl)
  obtain ⟨fd_flow_text, F_flow_text⟩ := c.def_ 8 (d := dd_flow_text) rfl
  have g_flow_text := He.glo_ok X G (c.fact 8 (f := .glo "flow_text") rfl)
  obtain ⟨fd_show_paper, F_show_paper⟩ := c.def_ 9 (d := dd_show_paper) rfl
  have g_show_paper := He.glo_ok X G (c.fact 9 (f := .glo "show_paper") rfl)
  obtain ⟨fd_rows_of, F_rows_of⟩ := c.def_ 10 (d := dd_rows_of) rfl
  have g_rows_of := He.glo_ok X G (c.fact 10 (f := .glo "rows_of") rfl)
  obtain ⟨fd_letters_of, F_letters_of⟩ := c.def_ 11 (d := dd_letters_of) rfl
  have g_letters_of := He.glo_ok X G (c.fact 11 (f := .glo "letters_of") rfl)
  obtain ⟨fd_is_number, F_is_number⟩ := c.def_ 12 (d := dd_is_number) rfl
  have g_is_number := He.glo_ok X G (c.fact 12 (f := .glo "is_number") rfl)
  obtain ⟨fd_read_entry, F_read_entry⟩ := c.def_ 13 (d := dd_read_entry) rfl
  have g_read_entry := He.glo_ok X G (c.fact 13 (f := .glo "read_entry") rfl)
  obtain ⟨fd_read_flow, F_read_flow⟩ := c.def_ 14 (d := dd_read_flow) rfl
  have g_read_flow := He.glo_ok X G (c.fact 14 (f := .glo "read_flow") rfl)
  obtain ⟨fd_letters_of__t, F_letters_of__t⟩ := c.def_ 15 (d := dd_letters_of__t) rfl
  have g_letters_of__t := He.glo_ok X G (c.fact 15 (f := .glo "letters_of") rfl)
  obtain ⟨fd_contrary, F_contrary⟩ := c.def_ 16 (d := dd_contrary) rfl
  have g_contrary := He.glo_ok X G (c.fact 16 (f := .glo "contrary") rfl)
  obtain ⟨fd_is_side, F_is_side⟩ := c.def_ 17 (d := dd_is_side) rfl
  have g_is_side := He.glo_ok X G (c.fact 17 (f := .glo "is_side") rfl)
  obtain ⟨fd_is_change, F_is_change⟩ := c.def_ 18 (d := dd_is_change) rfl
  have g_is_change := He.glo_ok X G (c.fact 18 (f := .glo "is_change") rfl)
  obtain ⟨fd_look_change, F_look_change⟩ := c.def_ 19 (d := dd_look_change) rfl
  have g_look_change := He.glo_ok X G (c.fact 19 (f := .glo "look_change") rfl)
  obtain ⟨fd_read_change, F_read_change⟩ := c.def_ 20 (d := dd_read_change) rfl
  have g_read_change := He.glo_ok X G (c.fact 20 (f := .glo "read_change") rfl)
  obtain ⟨fd_read_paper, F_read_paper⟩ := c.def_ 21 (d := dd_read_paper) rfl
  have g_read_paper := He.glo_ok X G (c.fact 21 (f := .glo "read_paper") rfl)
  obtain ⟨fd_step_text, F_step_text⟩ := c.def_ 22 (d := dd_step_text) rfl
  have g_step_text := He.glo_ok X G (c.fact 22 (f := .glo "step_text") rfl)
  obtain ⟨fd_show_road, F_show_road⟩ := c.def_ 23 (d := dd_show_road) rfl
  have g_show_road := He.glo_ok X G (c.fact 23 (f := .glo "show_road") rfl)
  obtain ⟨fd_read_exchange, F_read_exchange⟩ := c.def_ 24 (d := dd_read_exchange) rfl
  have g_read_exchange := He.glo_ok X G (c.fact 24 (f := .glo "read_exchange") rfl)
  obtain ⟨fd_read_step, F_read_step⟩ := c.def_ 25 (d := dd_read_step) rfl
  have g_read_step := He.glo_ok X G (c.fact 25 (f := .glo "read_step") rfl)
  obtain ⟨fd_read_road, F_read_road⟩ := c.def_ 26 (d := dd_read_road) rfl
  have g_read_road := He.glo_ok X G (c.fact 26 (f := .glo "read_road") rfl)
  obtain ⟨fd_law_right, F_law_right⟩ := c.def_ 27 (d := dd_law_right) rfl
  have g_law_right := He.glo_ok X G (c.fact 27 (f := .glo "_law_right") rfl)
  obtain ⟨fd_law_letters, F_law_letters⟩ := c.def_ 28 (d := dd_law_letters) rfl
  have g_law_letters := He.glo_ok X G (c.fact 28 (f := .glo "_law_letters") rfl)
  obtain ⟨fd_law_contrary, F_law_contrary⟩ := c.def_ 29 (d := dd_law_contrary) rfl
  have g_law_contrary := He.glo_ok X G (c.fact 29 (f := .glo "_law_contrary") rfl)
  obtain ⟨fd_law_drawn_change, F_law_drawn_change⟩ := c.def_ 30 (d := dd_law_drawn_change) rfl
  have g_law_drawn_change := He.glo_ok X G (c.fact 30 (f := .glo "_law_drawn_change") rfl)
  obtain ⟨fd_law_exchange, F_law_exchange⟩ := c.def_ 31 (d := dd_law_exchange) rfl
  have g_law_exchange := He.glo_ok X G (c.fact 31 (f := .glo "_law_exchange") rfl)
  obtain ⟨fd_law_drawn_step, F_law_drawn_step⟩ := c.def_ 32 (d := dd_law_drawn_step) rfl
  have g_law_drawn_step := He.glo_ok X G (c.fact 32 (f := .glo "_law_drawn_step") rfl)
  obtain ⟨fd_law_drawn_road, F_law_drawn_road⟩ := c.def_ 33 (d := dd_law_drawn_road) rfl
  have g_law_drawn_road := He.glo_ok X G (c.fact 33 (f := .glo "_law_drawn_road") rfl)
  obtain ⟨fd_law_drawn_entry, F_law_drawn_entry⟩ := c.def_ 34 (d := dd_law_drawn_entry) rfl
  have g_law_drawn_entry := He.glo_ok X G (c.fact 34 (f := .glo "_law_drawn_entry") rfl)
  obtain ⟨fd_law_drawn_paper, F_law_drawn_paper⟩ := c.def_ 35 (d := dd_law_drawn_paper) rfl
  have g_law_drawn_paper := He.glo_ok X G (c.fact 35 (f := .glo "_law_drawn_paper") rfl)
  obtain ⟨fd_law, F_law⟩ := c.def_ 36 (d := dd_law) rfl
  have g_law := He.glo_ok X G (c.fact 36 (f := .glo "law") rfl)
  obtain ⟨t_ALL_LETTERS, c_ALL_LETTERS⟩ := He.str_ok X G (c.fact 49 rfl)
  have e := hfa.symm.trans g_law
  cases e
  have b := FunD.bindsA (ps := ["_law_script"]) F_law fun _ _ _ _ _ _ us hl => match us, hl with | [_], _ => rfl
  refine ⟨fd_law, fun s v => b s [v] rfl, fun base _ _ tb => ?_⟩
  have d_law_flow := d_law_flow (P := P) (w := w) (K := K') (base := base) z  F_law_flow g_law_flow
  have d_law_pick := d_law_pick (P := P) (w := w) (K := K') (base := base) z  F_law_pick g_law_pick
  have d_law_step_text := d_law_step_text (P := P) (w := w) (K := K') (base := base) z  F_law_step_text g_law_step_text
  have d_law_road_text := d_law_road_text (P := P) (w := w) (K := K') (base := base) z d_law_step_text F_law_road_text g_law_road_text
  have d_law_flow_text := d_law_flow_text (P := P) (w := w) (K := K') (base := base) z  F_law_flow_text g_law_flow_text
  have d_law_paper_text := d_law_paper_text (P := P) (w := w) (K := K') (base := base) z d_law_flow_text d_law_step_text F_law_paper_text g_law_paper_text
  have d_law_alike := d_law_alike (P := P) (w := w) (K := K') (base := base) z  F_law_alike g_law_alike 8
  have d_change_text := d_change_text (P := P) (w := w) (K := K') (base := base) z  F_change_text g_change_text
  have d_flow_text := d_flow_text (P := P) (w := w) (K := K') (base := base) z  F_flow_text g_flow_text
  have d_show_paper := d_show_paper (P := P) (w := w) (K := K') (base := base) z d_change_text d_flow_text F_show_paper g_show_paper
  have d_rows_of := d_rows_of (P := P) (w := w) (K := K') (base := base) z  F_rows_of g_rows_of
  have d_letters_of := d_letters_of (P := P) (w := w) (K := K') (base := base) z  c_ALL_LETTERS F_letters_of g_letters_of
  have d_is_number := d_is_number (P := P) (w := w) (K := K') (base := base) z  F_is_number g_is_number
  have d_read_entry := d_read_entry (P := P) (w := w) (K := K') (base := base) z d_is_number d_letters_of F_read_entry g_read_entry
  have d_read_flow := d_read_flow (P := P) (w := w) (K := K') (base := base) z d_read_entry F_read_flow g_read_flow
  have d_letters_of__t := d_letters_of__t (P := P) (w := w) (K := K') (base := base) z  c_ALL_LETTERS F_letters_of__t g_letters_of__t
  have d_contrary := d_contrary (P := P) (w := w) (K := K') (base := base) z  F_contrary g_contrary
  have d_is_side := d_is_side (P := P) (w := w) (K := K') (base := base) z d_contrary d_letters_of__t F_is_side g_is_side
  have d_is_change := d_is_change (P := P) (w := w) (K := K') (base := base) z d_is_side d_letters_of F_is_change g_is_change
  have d_look_change := d_look_change (P := P) (w := w) (K := K') (base := base) z d_is_change d_letters_of F_look_change g_look_change
  have d_read_change := d_read_change (P := P) (w := w) (K := K') (base := base) z d_look_change F_read_change g_read_change
  have d_read_paper := d_read_paper (P := P) (w := w) (K := K') (base := base) z d_read_change d_read_flow d_rows_of F_read_paper g_read_paper
  have d_step_text := d_step_text (P := P) (w := w) (K := K') (base := base) z d_change_text F_step_text g_step_text
  have d_show_road := d_show_road (P := P) (w := w) (K := K') (base := base) z d_step_text F_show_road g_show_road
  have d_read_exchange := d_read_exchange (P := P) (w := w) (K := K') (base := base) z d_letters_of F_read_exchange g_read_exchange
  have d_read_step := d_read_step (P := P) (w := w) (K := K') (base := base) z d_read_change d_read_exchange F_read_step g_read_step
  have d_read_road := d_read_road (P := P) (w := w) (K := K') (base := base) z d_read_step d_rows_of F_read_road g_read_road
  have d_law_right := d_law_right (P := P) (w := w) (K := K') (base := base) z d_law_alike d_law_paper_text d_law_road_text d_read_paper d_read_road d_show_paper d_show_road F_law_right g_law_right
  have d_law_letters := d_law_letters (P := P) (w := w) (K := K') (base := base) z  F_law_letters g_law_letters
  have d_law_contrary := d_law_contrary (P := P) (w := w) (K := K') (base := base) z  F_law_contrary g_law_contrary
  have d_law_drawn_change := d_law_drawn_change (P := P) (w := w) (K := K') (base := base) z d_law_contrary d_law_letters d_law_pick F_law_drawn_change g_law_drawn_change
  have d_law_exchange := d_law_exchange (P := P) (w := w) (K := K') (base := base) z d_law_pick F_law_exchange g_law_exchange
  have d_law_drawn_step := d_law_drawn_step (P := P) (w := w) (K := K') (base := base) z d_law_drawn_change d_law_exchange d_law_pick F_law_drawn_step g_law_drawn_step
  have d_law_drawn_road := d_law_drawn_road (P := P) (w := w) (K := K') (base := base) z d_law_drawn_step d_law_pick F_law_drawn_road g_law_drawn_road
  have d_law_drawn_entry := d_law_drawn_entry (P := P) (w := w) (K := K') (base := base) z d_law_letters d_law_pick F_law_drawn_entry g_law_drawn_entry
  have d_law_drawn_paper := d_law_drawn_paper (P := P) (w := w) (K := K') (base := base) z d_law_drawn_change d_law_drawn_entry d_law_pick F_law_drawn_paper g_law_drawn_paper
  have d_law := d_law (P := P) (w := w) (K := K') (base := base) z d_law_drawn_paper d_law_drawn_road d_law_flow d_law_pick d_law_right F_law g_law
  exact d_law
end T
open PySem PySem.W PySem.Calls PyProof.Rows
set_option maxHeartbeats 0 in
theorem PySem.Challenge.cw_newletters_k56_roads_and_papers_written_holds : PySem.Challenge.rw_newletters_k56_roads_and_papers_written.Holds := by
  refine T.holds_of (S := T.hk.says) T.hk.of T.hk.keeps T.run0 fun w mg fa h Y G hmg0 => ?_
  obtain ⟨K, S1, S2, S3, S4⟩ := Y
  have hmg : mg ("law" : PySem.Str) = some (.ref fa) := T.nm_law ▸ hmg0
  obtain ⟨fd, hb, hF⟩ := T.facts (P := (PySem.Challenge.rw_newletters_k56_roads_and_papers_written).prog) (w := w) (Z.says_no S1 S2 S3 S4) G hmg
  exact ⟨K, S1, fd, [], Z.spM K mg 1 T.f_law, (fun p hp => by cases hp), (fun p hp => by cases hp), (fun p hp => by cases hp), hb, fun H a ns hl _ hT hS => Z.law_sp (by rw [S4]; simp) hS (T.law_true ns hl), hF⟩
